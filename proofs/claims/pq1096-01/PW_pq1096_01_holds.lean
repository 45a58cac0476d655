import PyProof.Rows.All
import Wide.All
import OpenK.AllK
import Wide.FinOn
import Lean
import PySem.Challenge.RW_pq1096_01
open PySem PySem.W PyProof.Rows
set_option Elab.async false
set_option linter.unusedVariables false
set_option linter.unusedSimpArgs false
set_option linter.unnecessarySimpa false
set_option maxRecDepth 100000
namespace Mine
section
set_option genSizeOf false
theorem byG {P : Prop} (h : ∀ G : Prop, (P → G) → G) : P := h P id
section
variable {α β γ : Type} {X : Prop}
theorem deadP {a : α} (e : none = some a) : X := nomatch e
theorem bndP {o : Option (α × β)} {f : α × β → Option γ} {r : γ} (e : o.bind f = some r) (k : ∀ a b, o = some (a, b) → f (a, b) = some r → X) : X := let ⟨⟨a, b⟩, h, h'⟩ := Option.bind_eq_some_iff.mp e; k a b h h'
theorem bnd1 {o : Option α} {f : α → Option γ} {r : γ} (e : o.bind f = some r) (k : ∀ a, o = some a → f a = some r → X) : X := let ⟨a, h, h'⟩ := Option.bind_eq_some_iff.mp e; k a h h'
theorem map1 {o : Option α} {f : α → γ} {r : γ} (e : o.map f = some r) (k : ∀ a, o = some a → f a = r → X) : X := let ⟨a, h, h'⟩ := Option.map_eq_some_iff.mp e; k a h h'
theorem spP {a c : α} {b d : β} (e : some (a, b) = some (c, d)) (k : c = a → b = d → X) : X := k (congrArg Prod.fst (Option.some.inj e.symm)) (congrArg Prod.snd (Option.some.inj e))
theorem smP {a b : α} (e : some a = some b) (k : a = b → X) : X := k (Option.some.inj e)
theorem ifP {p : Prop} [Decidable p] {a : Option α} {r : α} (e : (if p then a else none) = some r) (k : p → a = some r → X) : X := if h : p then k h (by rwa [if_pos h] at e) else deadP (by rwa [if_neg h] at e)
theorem ifN {p : Prop} [Decidable p] {a : Option α} {r : α} (e : (if p then none else a) = some r) (k : ¬ p → a = some r → X) : X := if h : p then deadP (by rwa [if_pos h] at e) else k h (by rwa [if_neg h] at e)
end
section
variable {X a b c d e : Prop}
theorem andP2 (h : a ∧ b) (k : a → b → X) : X := k h.1 h.2
theorem andP3 (h : a ∧ b ∧ c) (k : a → b → c → X) : X := k h.1 h.2.1 h.2.2
theorem andP4 (h : a ∧ b ∧ c ∧ d) (k : a → b → c → d → X) : X := k h.1 h.2.1 h.2.2.1 h.2.2.2
theorem andP5 (h : a ∧ b ∧ c ∧ d ∧ e) (k : a → b → c → d → e → X) : X := k h.1 h.2.1 h.2.2.1 h.2.2.2.1 h.2.2.2.2
end
section
universe u v w
variable {α : Sort u} {β : Sort v} {γ : Sort w} {X : Prop} {p q r s t x : α → Prop} {p2 q2 r2 s2 t2 : α → β → Prop} {p3 q3 r3 s3 : α → β → γ → Prop}
theorem exP1 (h : ∃ a, p a) (k : ∀ a, p a → X) : X := let ⟨a, h⟩ := h; k a h
theorem exP2 (h : ∃ a, p a ∧ q a) (k : ∀ a, p a → q a → X) : X := let ⟨a, h1, h2⟩ := h; k a h1 h2
theorem exP3 (h : ∃ a, p a ∧ q a ∧ r a) (k : ∀ a, p a → q a → r a → X) : X := let ⟨a, h1, h2, h3⟩ := h; k a h1 h2 h3
theorem exP4 (h : ∃ a, p a ∧ q a ∧ r a ∧ s a) (k : ∀ a, p a → q a → r a → s a → X) : X := let ⟨a, h1, h2, h3, h4⟩ := h; k a h1 h2 h3 h4
theorem exP5 (h : ∃ a, p a ∧ q a ∧ r a ∧ s a ∧ t a) (k : ∀ a, p a → q a → r a → s a → t a → X) : X := let ⟨a, h1, h2, h3, h4, h5⟩ := h; k a h1 h2 h3 h4 h5
theorem exP6 (h : ∃ a, p a ∧ q a ∧ r a ∧ s a ∧ t a ∧ x a) (k : ∀ a, p a → q a → r a → s a → t a → x a → X) : X := let ⟨a, h1, h2, h3, h4, h5, h6⟩ := h; k a h1 h2 h3 h4 h5 h6
theorem exQ1 (h : ∃ a b, p2 a b) (k : ∀ a b, p2 a b → X) : X := let ⟨a, b, h⟩ := h; k a b h
theorem exQ2 (h : ∃ a b, p2 a b ∧ q2 a b) (k : ∀ a b, p2 a b → q2 a b → X) : X := let ⟨a, b, h1, h2⟩ := h; k a b h1 h2
theorem exQ3 (h : ∃ a b, p2 a b ∧ q2 a b ∧ r2 a b) (k : ∀ a b, p2 a b → q2 a b → r2 a b → X) : X := let ⟨a, b, h1, h2, h3⟩ := h; k a b h1 h2 h3
theorem exQ4 (h : ∃ a b, p2 a b ∧ q2 a b ∧ r2 a b ∧ s2 a b) (k : ∀ a b, p2 a b → q2 a b → r2 a b → s2 a b → X) : X := let ⟨a, b, h1, h2, h3, h4⟩ := h; k a b h1 h2 h3 h4
theorem exQ5 (h : ∃ a b, p2 a b ∧ q2 a b ∧ r2 a b ∧ s2 a b ∧ t2 a b) (k : ∀ a b, p2 a b → q2 a b → r2 a b → s2 a b → t2 a b → X) : X := let ⟨a, b, h1, h2, h3, h4, h5⟩ := h; k a b h1 h2 h3 h4 h5
theorem exR1 (h : ∃ a b c, p3 a b c) (k : ∀ a b c, p3 a b c → X) : X := let ⟨a, b, c, h⟩ := h; k a b c h
theorem exR2 (h : ∃ a b c, p3 a b c ∧ q3 a b c) (k : ∀ a b c, p3 a b c → q3 a b c → X) : X := let ⟨a, b, c, h1, h2⟩ := h; k a b c h1 h2
theorem exR3 (h : ∃ a b c, p3 a b c ∧ q3 a b c ∧ r3 a b c) (k : ∀ a b c, p3 a b c → q3 a b c → r3 a b c → X) : X := let ⟨a, b, c, h1, h2, h3⟩ := h; k a b c h1 h2 h3
theorem exR4 (h : ∃ a b c, p3 a b c ∧ q3 a b c ∧ r3 a b c ∧ s3 a b c) (k : ∀ a b c, p3 a b c → q3 a b c → r3 a b c → s3 a b c → X) : X := let ⟨a, b, c, h1, h2, h3, h4⟩ := h; k a b c h1 h2 h3 h4
end
inductive DV where
  | none | bool (b : Bool) | int (i : Int) | str (x : Str) | bytes (b : Array UInt8)
  | tup (l : List DV) | lst (l : List DV) | ba (b : Array UInt8) | dct (ks : List Str) (l : List DV)
  | inst (C : Addr) (i : Nat) | loc (i : Nat) | con (v : Value)
  deriving Inhabited
inductive AO where
  | list (l : List DV) | dict (ks : List Str) (l : List DV) | ba (b : Array UInt8)
  deriving Inhabited
structure Cx where
  prog : Program
  w : World
  K : Frag
  cls : List Addr
  h₀ : Heap
noncomputable abbrev Cx.kd (c : Cx) : KeyKind c.prog c.w Str := strKind c.prog c.w
noncomputable abbrev Cx.M (c : Cx) : Model := model c.prog c.w
noncomputable abbrev tupO (vs : Array Value) (n : Nat) : Obj := { cls := .type "tuple", data := .seq vs n }
noncomputable abbrev lstO (vs : Array Value) (n : Nat) : Obj := { cls := .type "list", data := .seq vs n }
noncomputable abbrev baO (b : Array UInt8) : Obj := { cls := .type "bytearray", data := .bytearray b }
mutual
noncomputable def VR (c : Cx) (M P : List Addr) (h : Heap) : DV → Value → Prop
  | .none, v => v = .none
  | .bool b, v => v = .bool b
  | .int i, v => ∃ t, v = .int i t
  | .str x, v => ∃ t, v = .str x t
  | .bytes b, v => ∃ t, v = .bytes b t
  | .tup ds, v => ∃ a vs n, v = .ref a ∧ a ∉ M ∧ a ∉ P ∧ h.get? a = some (tupO vs n) ∧ VRs c M P h ds vs.toList
  | .lst ds, v => ∃ a vs n, v = .ref a ∧ a ∉ M ∧ a ∉ P ∧ h.get? a = some (lstO vs n) ∧ VRs c M P h ds vs.toList
  | .ba b, v => ∃ a, v = .ref a ∧ a ∉ M ∧ a ∉ P ∧ h.get? a = some (baO b)
  | .dct ks ds, v => ∃ a vs, v = .ref a ∧ a ∉ M ∧ a ∉ P ∧ a ≠ sysModules ∧ h.DictOf c.kd a (ks.zip vs) ∧ ks.length = vs.length ∧ VRs c M P h ds vs
  | .inst C i, v => ∃ x dx, v = .ref x ∧ x ∉ M ∧ x ∉ P ∧ h.get? x = some (instObj C dx) ∧ M[i]? = some dx ∧ C ∈ c.cls
  | .loc i, v => ∃ a, v = .ref a ∧ M[i]? = some a
  | .con u, v => v = u ∧ handedIn u = true
noncomputable def VRs (c : Cx) (M P : List Addr) (h : Heap) : List DV → List Value → Prop
  | [], vs => vs = []
  | d :: ds, vs => ∃ v r, vs = v :: r ∧ VR c M P h d v ∧ VRs c M P h ds r
end
structure Ext (O M M' : List Addr) (h h' : Heap) : Prop where
  pre : M <+: M'
  new : ∀ a ∈ M', a ∈ M ∨ h.get? a = none
  off : ∀ a ∈ M', a ∈ O → a ∈ M
  keep : ∀ b o, b ∉ M → b ∉ O → h.get? b = some o → h'.get? b = some o
theorem Ext.refl {O M : List Addr} {h : Heap} : Ext O M M h h := ⟨List.prefix_refl _, fun _ h => .inl h, fun _ h _ => h, fun _ _ _ _ e => e⟩
theorem Ext.of_keep {O M : List Addr} {h h' : Heap} (k : ∀ b o, h.get? b = some o → h'.get? b = some o) : Ext O M M h h' :=
  ⟨List.prefix_refl _, fun _ h => .inl h, fun _ h _ => h, fun b o _ _ e => k b o e⟩
theorem Ext.trans {O M M' M'' : List Addr} {h h' h'' : Heap} (x : Ext O M M' h h') (y : Ext O M' M'' h' h'')
    : Ext O M M'' h h'' := by
  refine ⟨x.pre.trans y.pre, fun a ha => ?_, fun a ha ho => x.off a (y.off a ha ho) ho, fun b o h1 h2 e => y.keep b o (fun z => ?_) h2 (x.keep b o h1 h2 e)⟩
  · rcases y.new a ha with q | q
    · exact x.new a q
    · by_cases hM : a ∈ M
      · exact .inl hM
      · by_cases hO : a ∈ O
        · exact x.new a (y.off a ha hO)
        · cases e : h.get? a with
          | none => exact .inr rfl
          | some o => rw [x.keep a o hM hO e] at q; cases q
  · rcases x.new b z with q | q
    · exact h1 q
    · rw [q] at e; cases e
theorem Ext.own {O M M' : List Addr} {h h' : Heap} (x : Ext [] M M' h h') (hO : ∀ a ∈ O, a ∉ M') : Ext O M M' h h' :=
  ⟨x.pre, x.new, fun a h1 h2 => absurd h1 (hO a h2), fun b o h1 _ e => x.keep b o h1 (fun z => nomatch z) e⟩
theorem prefix_get {α : Type} {M M' : List α} (p : M <+: M') {i : Nat} {a : α} (e : M[i]? = some a) : M'[i]? = some a := by
  refine exP1 p ?_; clear p; rintro t rfl
  rw [List.getElem?_append_left (by obtain ⟨h, _⟩ := List.getElem?_eq_some_iff.mp e; exact h)]
  exact e
section mono
variable {c : Cx} {M M' P P' : List Addr} {h h' : Heap}
structure Mono (M M' P P' : List Addr) (h h' : Heap) : Prop where
  pre : M <+: M'
  pure : ∀ a o, a ∉ M → a ∉ P → h.get? a = some o → h'.get? a = some o ∧ a ∉ M' ∧ a ∉ P'
theorem Ext.mono {O : List Addr} (x : Ext O M M' h h') (hO : ∀ a ∈ O, a ∈ P) : Mono M M' P P h h' :=
  ⟨x.pre, fun a o h1 h2 e => ⟨x.keep a o h1 (fun z => h2 (hO a z)) e, fun z => (x.new a z).elim h1 (fun q => by rw [q] at e; cases e), h2⟩⟩
theorem Mono.shrink (hs : ∀ a ∈ P', a ∈ P) : Mono M M P P' h h :=
  ⟨List.prefix_refl _, fun a o h1 h2 e => ⟨e, h1, fun z => h2 (hs a z)⟩⟩
theorem Mono.enter (k : ∀ b o, h.get? b = some o → h'.get? b = some o) (hs : ∀ a ∈ P', a ∈ P ∨ h.get? a = none) : Mono M M P P' h h' :=
  ⟨List.prefix_refl _, fun a o h1 h2 e => ⟨k a o e, h1, fun z => (hs a z).elim h2 (fun q => by rw [q] at e; cases e)⟩⟩
mutual
theorem VR.mono (x : Mono M M' P P' h h') : ∀ {d : DV} {v : Value}, VR c M P h d v → VR c M' P' h' d v
  | .none, _, e => e
  | .bool _, _, e => e
  | .int _, _, e => e
  | .str _, _, e => e
  | .bytes _, _, e => e
  | .tup _, _, e => by
    refine byG fun GG kk => ?_
    obtain ⟨a, vs, n, e1, e2, e3, e4, e5⟩ := e
    refine andP3 (x.pure a _ e2 e3 e4) ?_; rintro p q r
    refine kk ?_
    clear kk GG
    exact show Exists _ from ⟨a, vs, n, e1, q, r, p, VRs.mono x e5⟩
  | .lst _, _, e => by
    refine byG fun GG kk => ?_
    obtain ⟨a, vs, n, e1, e2, e3, e4, e5⟩ := e
    refine andP3 (x.pure a _ e2 e3 e4) ?_; rintro p q r
    refine kk ?_
    clear kk GG
    exact show Exists _ from ⟨a, vs, n, e1, q, r, p, VRs.mono x e5⟩
  | .ba _, _, e => by
    refine byG fun GG kk => ?_
    refine exP4 e ?_; clear e; rintro a e1 e2 e3 e4
    refine andP3 (x.pure a _ e2 e3 e4) ?_; rintro p q r
    refine kk ?_
    clear kk GG
    exact show Exists _ from ⟨a, e1, q, r, p⟩
  | .dct _ _, _, e => by
    refine byG fun GG kk => ?_
    obtain ⟨a, vs, e1, e2, e3, es, e4, e5, e6⟩ := e
    refine kk ?_
    clear kk GG
    have e4' := e4
    refine byG fun GG kk => ?_
    refine exR2 e4' ?_; clear e4'; rintro o _ _ ho _
    refine andP3 (x.pure a _ e2 e3 ho) ?_; rintro p q r
    refine kk ?_
    clear kk GG
    exact show Exists _ from ⟨a, vs, e1, q, r, es, e4.at fun o' e' => (x.pure a _ e2 e3 e').1, e5, VRs.mono x e6⟩
  | .inst _ _, _, e => by
    refine byG fun GG kk => ?_
    obtain ⟨a, dx, e1, e2, e3, e4, e5, e6⟩ := e
    refine andP3 (x.pure a _ e2 e3 e4) ?_; rintro p q r
    refine kk ?_
    clear kk GG
    exact show Exists _ from ⟨a, dx, e1, q, r, p, prefix_get x.pre e5, e6⟩
  | .loc _, _, e => by
    refine exP2 e ?_; clear e; rintro a e1 e5
    exact show Exists _ from ⟨a, e1, prefix_get x.pre e5⟩
  | .con _, _, e => e
theorem VRs.mono (x : Mono M M' P P' h h') : ∀ {ds : List DV} {vs : List Value}, VRs c M P h ds vs → VRs c M' P' h' ds vs
  | [], _, e => e
  | _ :: _, _, e => by
    refine byG fun GG kk => ?_
    refine exQ3 e ?_; clear e; rintro v r e1 e2 e3
    refine kk ?_
    clear kk GG
    exact show Exists _ from ⟨v, r, e1, VR.mono x e2, VRs.mono x e3⟩
end
end mono
noncomputable def OR (c : Cx) (M P : List Addr) (h : Heap) (a : Addr) : AO → Prop
  | .list ds => ∃ vs n, h.get? a = some (lstO vs n) ∧ VRs c M P h ds vs.toList
  | .dict ks ds => ∃ vs, h.DictOf c.kd a (ks.zip vs) ∧ ks.length = vs.length ∧ VRs c M P h ds vs
  | .ba b => h.get? a = some (baO b)
structure St (c : Cx) (P M : List Addr) (σ : List AO) (h : Heap) : Prop where
  base : ∀ b o, c.h₀.get? b = some o → h.get? b = some o
  len : M.length = σ.length
  objs : ∀ (i : Nat) (a : Addr) (o : AO), M[i]? = some a → σ[i]? = some o → OR c M P h a o
  nd : M.Nodup
  new : ∀ a ∈ M, c.h₀.get? a = none ∧ a ≠ sysModules
  off : ∀ a ∈ P, a ∉ M ∧ c.h₀.get? a = none
  live : ∀ a ∈ P, ∃ o, h.get? a = some o
  nl : c.h₀.NoLimit
theorem OR.mono {c : Cx} {M M' P P' : List Addr} {h h' : Heap} {a : Addr} {o : AO} (x : Mono M M' P P' h h') (k : ∀ o, h.get? a = some o → h'.get? a = some o) (e : OR c M P h a o) : OR c M' P' h' a o := by
  cases o with
  | list ds => obtain ⟨vs, n, e1, e2⟩ := e; exact ⟨vs, n, k _ e1, VRs.mono x e2⟩
  | dict ks ds => obtain ⟨vs, e1, e2, e3⟩ := e; exact ⟨vs, e1.at k, e2, VRs.mono x e3⟩
  | ba b => exact k _ e
theorem OR.live {c : Cx} {M P : List Addr} {h : Heap} {a : Addr} {o : AO} (e : OR c M P h a o) : ∃ q, h.get? a = some q := by
  cases o with
  | list ds => obtain ⟨vs, n, e1, e2⟩ := e; exact ⟨_, e1⟩
  | dict ks ds => obtain ⟨vs, e1, e2, e3⟩ := e; obtain ⟨o, _, _, ho, _⟩ := e1; exact ⟨_, ho⟩
  | ba b => exact ⟨_, e⟩
section
variable {c : Cx} {M M' P P' O : List Addr} {h h' : Heap} {σ : List AO}
theorem St.keeps (S : St c P M σ h) (k : ∀ b o, h.get? b = some o → h'.get? b = some o) : St c P M σ h' :=
  ⟨fun b o e => k b o (S.base b o e), S.len, fun i a o h1 h2 => (S.objs i a o h1 h2).mono ((Ext.of_keep (O := []) k).mono (fun _ z => nomatch z)) (fun o e => k a o e), S.nd, S.new, S.off,
    fun a ha => let ⟨o, e⟩ := S.live a ha; ⟨o, k a o e⟩, S.nl⟩
theorem St.own (S : St c P M σ h) (x : Ext O M M h h') (hO : ∀ a ∈ O, a ∈ P) (k : ∀ a ∈ M, ∀ o, h.get? a = some o → h'.get? a = some o) (hl : ∀ a ∈ O, ∃ o, h'.get? a = some o) : St c P M σ h' :=
  ⟨fun b o e => x.keep b o (fun z => by rw [(S.new b z).1] at e; cases e) (fun z => by rw [(S.off b (hO b z)).2] at e; cases e) (S.base b o e), S.len,
    fun i a o h1 h2 => (S.objs i a o h1 h2).mono (x.mono hO) (fun o e => k a (List.mem_of_getElem? h1) o e), S.nd, S.new, S.off, fun a ha => by
      by_cases hz : a ∈ O
      · exact hl a hz
      · obtain ⟨o, e⟩ := S.live a ha; exact ⟨o, x.keep a o (S.off a ha).1 hz e⟩, S.nl⟩
theorem St.liveM (S : St c P M σ h) {a : Addr} (z : a ∈ M) : ∃ o, h.get? a = some o := by
  refine exP1 (List.getElem?_of_mem z) ?_; rintro i hi
  have hlt : i < σ.length := S.len ▸ (List.getElem?_eq_some_iff.mp hi).1
  exact (S.objs i a σ[i] hi (List.getElem?_eq_getElem hlt)).live
theorem St.enter (S : St c P M σ h) (k : ∀ b o, h.get? b = some o → h'.get? b = some o) (hs : ∀ a ∈ P', a ∈ P ∨ h.get? a = none) (hl : ∀ a ∈ P', ∃ o, h'.get? a = some o) : St c P' M σ h' :=
  ⟨fun b o e => k b o (S.base b o e), S.len, fun i a o h1 h2 => (S.objs i a o h1 h2).mono (Mono.enter k hs) (fun o e => k a o e), S.nd, S.new, (fun a ha => by
    rcases hs a ha with q | q
    · exact S.off a q
    · refine ⟨fun z => ?_, ?_⟩
      · refine exP1 (S.liveM z) ?_; rintro o ho
        rw [q] at ho; cases ho
      · cases e : c.h₀.get? a with
        | none => rfl
        | some o => exact absurd (S.base a o e) (by rw [q]; exact fun z => nomatch z)), hl, S.nl⟩
theorem St.shrink (S : St c P M σ h) (hs : ∀ a ∈ P', a ∈ P) : St c P' M σ h :=
  ⟨S.base, S.len, fun i a o h1 h2 => (S.objs i a o h1 h2).mono (Mono.shrink hs) (fun _ e => e), S.nd, S.new, fun a ha => S.off a (hs a ha), fun a ha => S.live a (hs a ha), S.nl⟩
theorem none_of_size {h : Heap} : h.get? h.objs.size = none := by
  cases e : h.get? h.objs.size with
  | none => rfl
  | some o => exact absurd (Heap.lt_size e) (Nat.lt_irrefl _)
theorem St.fresh (S : St c P M σ h) : h.objs.size ∉ M ∧ h.objs.size ∉ P ∧ h.objs.size ≠ sysModules := by
  refine ⟨fun z => ?_, fun z => ?_, ?_⟩
  · refine exP1 (S.liveM z) ?_; rintro o ho
    rw [none_of_size] at ho; cases ho
  · refine exP1 (S.live _ z) ?_; rintro o ho
    rw [none_of_size] at ho; cases ho
  · refine byG fun GG kk => ?_
    refine exP2 S.nl ?_; rintro mc ⟨o, es, ep, ho, _⟩ _
    refine kk ?_
    clear kk GG
    have : 2 < h.objs.size := Heap.lt_size (S.base _ _ ho)
    intro q
    rw [q] at this
    exact absurd this (by decide)
theorem St.set (S : St c P M σ h) {i : Nat} {a : Addr} {o : AO} (hi : M[i]? = some a) (hs : ∀ b o, b ≠ a → h.get? b = some o → h'.get? b = some o)
    (ho : Mono M M P P h h' → OR c M P h' a o) : St c P M (σ.set i o) h' ∧ Ext [] M M h h' := by
  have x : Ext [] M M h h' := ⟨List.prefix_refl _, fun _ h => .inl h, fun _ h _ => h, fun b o h1 _ e => hs b o (fun z => h1 (z ▸ List.mem_of_getElem? hi)) e⟩
  have m := x.mono (P := P) (fun _ z => nomatch z)
  refine ⟨⟨fun b q e => hs b q (fun z => ?_) (S.base b q e), by rw [List.length_set]; exact S.len, fun j b q h1 h2 => ?_, S.nd, S.new, S.off, fun b hb => let ⟨o, e⟩ := S.live b hb; ⟨o, hs b o (fun z => (S.off b hb).1 (z ▸ List.mem_of_getElem? hi)) e⟩, S.nl⟩, x⟩
  · rw [z, (S.new a (List.mem_of_getElem? hi)).1] at e; cases e
  · by_cases hj : i = j
    · subst hj
      rw [hi] at h1; cases h1
      rw [List.getElem?_set_self (by have := (List.getElem?_eq_some_iff.mp h2).1; rwa [List.length_set] at this)] at h2
      first | exact deadP h2 | (refine spP h2 ?_; clear h2; rintro rfl rfl) | (refine smP h2 ?_; clear h2; rintro rfl) | cases h2
      exact ho m
    · rw [List.getElem?_set_ne hj] at h2
      refine (S.objs j b q h1 h2).mono m (fun o' e' => hs b o' (fun z => hj ?_) e')
      subst z
      exact (List.getElem?_inj (List.getElem?_eq_some_iff.mp hi).1 S.nd).mp (hi.trans h1.symm)
theorem St.add (S : St c P M σ h) {a : Addr} {o : AO} (hn : h.get? a = none) (ha : a ∉ P) (hsys : a ≠ sysModules) (k : ∀ b o, h.get? b = some o → h'.get? b = some o)
    (ho : Mono M (M ++ [a]) P P h h' → OR c (M ++ [a]) P h' a o) : St c P (M ++ [a]) (σ ++ [o]) h' ∧ Ext [] M (M ++ [a]) h h' := by
  have x : Ext [] M (M ++ [a]) h h' := ⟨List.prefix_append _ _, fun b hb => (List.mem_append.mp hb).imp id (fun z => by rw [List.mem_singleton.mp z]; exact hn), (fun _ _ z => by simp at z), (fun b o _ _ e => k b o e)⟩
  have m := x.mono (P := P) (fun _ z => nomatch z)
  have haM : a ∉ M := fun z => by
    refine exP1 (List.getElem?_of_mem z) ?_; rintro i hi
    have hlt : i < σ.length := S.len ▸ (List.getElem?_eq_some_iff.mp hi).1
    refine exP1 ((S.objs i a σ[i] hi (List.getElem?_eq_getElem hlt)).live) ?_; rintro o ho
    rw [hn] at ho; cases ho
  have h0 : c.h₀.get? a = none := by
    cases e : c.h₀.get? a with
    | none => rfl
    | some q => rw [S.base a q e] at hn; cases hn
  refine ⟨⟨fun b q e => k b q (S.base b q e), by simp [S.len], fun j b q h1 h2 => ?_, ?_, fun b hb => ?_, fun b hb => ⟨fun z => ?_, (S.off b hb).2⟩, fun b hb => let ⟨o, e⟩ := S.live b hb; ⟨o, k b o e⟩, S.nl⟩, x⟩
  · by_cases hj : j < M.length
    · rw [List.getElem?_append_left hj] at h1
      rw [List.getElem?_append_left (S.len ▸ hj)] at h2
      exact (S.objs j b q h1 h2).mono m (fun o' e' => k b o' e')
    · have hj' : j = M.length := by
        have := (List.getElem?_eq_some_iff.mp h1).1
        simp at this; lia
      subst hj'
      simp at h1
      rw [S.len] at h2
      simp at h2
      subst h1 h2
      exact ho m
  · rw [List.nodup_append]
    exact ⟨S.nd, (by simp), fun b hb d hd e => haM (by rw [List.mem_singleton.mp hd] at e; rw [← e]; exact hb)⟩
  · rcases List.mem_append.mp hb with q | q
    · exact S.new b q
    · rw [List.mem_singleton.mp q]; exact ⟨h0, hsys⟩
  · rcases List.mem_append.mp z with q | q
    · exact (S.off b hb).1 q
    · rw [List.mem_singleton.mp q] at hb; exact ha hb
end
theorem VRs.length {c : Cx} {M P : List Addr} {h : Heap} : ∀ {ds : List DV} {vs : List Value}, VRs c M P h ds vs → ds.length = vs.length
  | [], _, e => by unfold VRs at e; rw [e]; rfl
  | _ :: _, _, e => by
    unfold VRs at e
    refine byG fun GG kk => ?_
    refine exQ3 e ?_; clear e; rintro v r rfl _ e3
    refine kk ?_
    clear kk GG
    simp [VRs.length e3]
theorem VRs.get {c : Cx} {M P : List Addr} {h : Heap} : ∀ {ds : List DV} {vs : List Value}, VRs c M P h ds vs → ∀ {i : Nat} {d : DV}, ds[i]? = some d → ∃ v, vs[i]? = some v ∧ VR c M P h d v
  | [], _, _, i, d, hd => by simp at hd
  | _ :: ds, _, e, i, d, hd => by
    unfold VRs at e
    refine byG fun GG kk => ?_
    refine exQ3 e ?_; clear e; rintro v r rfl e2 e3
    refine kk ?_
    clear kk GG
    cases i with
    | zero => simp at hd; subst hd; exact ⟨v, by simp, e2⟩
    | succ i => simp at hd; simpa using VRs.get e3 hd
theorem VRs.cons {c : Cx} {M P : List Addr} {h : Heap} {d : DV} {v : Value} {ds : List DV} {vs : List Value} (x : VR c M P h d v) (y : VRs c M P h ds vs) : VRs c M P h (d :: ds) (v :: vs) := by
  unfold VRs; exact ⟨v, vs, rfl, x, y⟩
theorem VRs.nil {c : Cx} {M P : List Addr} {h : Heap} : VRs c M P h [] [] := by unfold VRs; rfl
theorem VRs.append {c : Cx} {M P : List Addr} {h : Heap} : ∀ {ds es : List DV} {vs us : List Value}, VRs c M P h ds vs → VRs c M P h es us → VRs c M P h (ds ++ es) (vs ++ us)
  | [], _, _, _, x, y => by unfold VRs at x; subst x; exact y
  | _ :: _, _, _, _, x, y => by
    unfold VRs at x
    refine byG fun GG kk => ?_
    refine exQ3 x ?_; clear x; rintro v r rfl e2 e3
    refine kk ?_
    clear kk GG
    exact VRs.cons e2 (VRs.append e3 y)
theorem VRs.drop {c : Cx} {M P : List Addr} {h : Heap} : ∀ {ds : List DV} {vs : List Value}, VRs c M P h ds vs → ∀ n, VRs c M P h (ds.drop n) (vs.drop n)
  | [], _, x, n => by unfold VRs at x; subst x; simp [VRs.nil]
  | _ :: _, _, x, 0 => by simpa using x
  | _ :: _, _, x, n + 1 => by
    unfold VRs at x
    refine byG fun GG kk => ?_
    refine exQ3 x ?_; clear x; rintro v r rfl e2 e3
    refine kk ?_
    clear kk GG
    simpa using VRs.drop e3 n
theorem VRs.take {c : Cx} {M P : List Addr} {h : Heap} : ∀ {ds : List DV} {vs : List Value}, VRs c M P h ds vs → ∀ n, VRs c M P h (ds.take n) (vs.take n)
  | [], _, x, n => by unfold VRs at x; subst x; simp [VRs.nil]
  | _ :: _, _, x, 0 => by simp [VRs.nil]
  | _ :: _, _, x, n + 1 => by
    unfold VRs at x
    refine byG fun GG kk => ?_
    refine exQ3 x ?_; clear x; rintro v r rfl e2 e3
    refine kk ?_
    clear kk GG
    simpa using VRs.cons e2 (VRs.take e3 n)
theorem VRs.reverse {c : Cx} {M P : List Addr} {h : Heap} : ∀ {ds : List DV} {vs : List Value}, VRs c M P h ds vs → VRs c M P h ds.reverse vs.reverse
  | [], _, x => by unfold VRs at x; subst x; simp [VRs.nil]
  | _ :: _, _, x => by
    unfold VRs at x
    refine byG fun GG kk => ?_
    refine exQ3 x ?_; clear x; rintro v r rfl e2 e3
    refine kk ?_
    clear kk GG
    simpa using VRs.append (VRs.reverse e3) (VRs.cons e2 VRs.nil)
theorem VRs.of_all {c : Cx} {M P : List Addr} {h : Heap} : ∀ {ds : List DV} {vs : List Value}, ds.length = vs.length → (∀ (i : Nat) (d : DV) (v : Value), ds[i]? = some d → vs[i]? = some v → VR c M P h d v) → VRs c M P h ds vs
  | [], [], _, _ => VRs.nil
  | d :: ds, v :: vs, hl, hf => VRs.cons (hf 0 d v rfl rfl) (VRs.of_all (by simpa using hl) fun i d' v' h1 h2 => hf (i + 1) d' v' (by simpa using h1) (by simpa using h2))
  | [], _ :: _, hl, _ => by simp at hl
  | _ :: _, [], hl, _ => by simp at hl
end
section
set_option genSizeOf false
set_option genInjectivity false
noncomputable abbrev Sg := List AO
noncomputable abbrev Fun := List DV → Sg → Option (DV × Sg)
noncomputable abbrev Hd := Addr → Fun
noncomputable abbrev Rho := List (Option DV)
noncomputable def refU : Value → Option Addr
  | .ref a => some a
  | _ => none
noncomputable def intD (d : DV) : Option Int := @DV.casesOn (fun _ => Option Int) d none (fun _ => none) some (fun _ => none) (fun _ => none) (fun _ => none) (fun _ => none) (fun _ => none) (fun _ _ => none) (fun _ _ => none) (fun _ => none) (fun _ => none)
noncomputable def strD (d : DV) : Option Str := @DV.casesOn (fun _ => Option Str) d none (fun _ => none) (fun _ => none) some (fun _ => none) (fun _ => none) (fun _ => none) (fun _ => none) (fun _ _ => none) (fun _ _ => none) (fun _ => none) (fun _ => none)
noncomputable def bytD (d : DV) : Option (Array UInt8) := @DV.casesOn (fun _ => Option (Array UInt8)) d none (fun _ => none) (fun _ => none) (fun _ => none) some (fun _ => none) (fun _ => none) (fun _ => none) (fun _ _ => none) (fun _ _ => none) (fun _ => none) (fun _ => none)
noncomputable def tupD (d : DV) : Option (List DV) := @DV.casesOn (fun _ => Option (List DV)) d none (fun _ => none) (fun _ => none) (fun _ => none) (fun _ => none) some (fun _ => none) (fun _ => none) (fun _ _ => none) (fun _ _ => none) (fun _ => none) (fun _ => none)
noncomputable def lstD (d : DV) : Option (List DV) := @DV.casesOn (fun _ => Option (List DV)) d none (fun _ => none) (fun _ => none) (fun _ => none) (fun _ => none) (fun _ => none) some (fun _ => none) (fun _ _ => none) (fun _ _ => none) (fun _ => none) (fun _ => none)
noncomputable def baD (d : DV) : Option (Array UInt8) := @DV.casesOn (fun _ => Option (Array UInt8)) d none (fun _ => none) (fun _ => none) (fun _ => none) (fun _ => none) (fun _ => none) (fun _ => none) some (fun _ _ => none) (fun _ _ => none) (fun _ => none) (fun _ => none)
noncomputable def instD (d : DV) : Option (Addr × Nat) := @DV.casesOn (fun _ => Option (Addr × Nat)) d none (fun _ => none) (fun _ => none) (fun _ => none) (fun _ => none) (fun _ => none) (fun _ => none) (fun _ => none) (fun _ _ => none) (fun C i => some (C, i)) (fun _ => none) (fun _ => none)
noncomputable def locD (d : DV) : Option Nat := @DV.casesOn (fun _ => Option Nat) d none (fun _ => none) (fun _ => none) (fun _ => none) (fun _ => none) (fun _ => none) (fun _ => none) (fun _ => none) (fun _ _ => none) (fun _ _ => none) some (fun _ => none)
noncomputable def boolD (d : DV) : Option Bool := @DV.casesOn (fun _ => Option Bool) d none some (fun _ => none) (fun _ => none) (fun _ => none) (fun _ => none) (fun _ => none) (fun _ => none) (fun _ _ => none) (fun _ _ => none) (fun _ => none) (fun _ => none)
noncomputable def dctD (d : DV) : Option (List Str × List DV) := @DV.casesOn (fun _ => Option (List Str × List DV)) d none (fun _ => none) (fun _ => none) (fun _ => none) (fun _ => none) (fun _ => none) (fun _ => none) (fun _ => none) (fun k l => some (k, l)) (fun _ _ => none) (fun _ => none) (fun _ => none)
noncomputable def nonD (d : DV) : Option Bool := @DV.casesOn (fun _ => Option Bool) d (some true) (fun _ => none) (fun _ => some false) (fun _ => none) (fun _ => none) (fun _ => none) (fun _ => none) (fun _ => none) (fun _ _ => none) (fun _ _ => none) (fun _ => none) (fun _ => none)
noncomputable def isT (d : DV) : Option Bool := @DV.casesOn (fun _ => Option Bool) d (some true) (fun _ => none) (fun _ => some false) (fun _ => none) (fun _ => some false) (fun _ => some false) (fun _ => none) (fun _ => none) (fun _ _ => none) (fun _ _ => none) (fun _ => none) (fun u => (refU u).map fun _ => false)
noncomputable def notT (d : DV) : Option Bool := @DV.casesOn (fun _ => Option Bool) d (some false) (fun _ => none) (fun _ => some true) (fun _ => none) (fun _ => none) (fun _ => some true) (fun _ => none) (fun _ => none) (fun _ _ => none) (fun _ _ => none) (fun _ => none) (fun _ => none)
noncomputable def refD (d : DV) : Option Addr := @DV.casesOn (fun _ => Option Addr) d none (fun _ => none) (fun _ => none) (fun _ => none) (fun _ => none) (fun _ => none) (fun _ => none) (fun _ => none) (fun _ _ => none) (fun _ _ => none) (fun _ => none) refU
noncomputable def objD (d : DV) : Option AO := @DV.casesOn (fun _ => Option AO) d none (fun _ => none) (fun _ => none) (fun _ => none) (fun _ => none) (fun _ => none) (fun l => some (.list l)) (fun b => some (.ba b)) (fun k l => some (.dict k l)) (fun _ _ => none) (fun _ => none) (fun _ => none)
noncomputable def isNo (d : DV) : Bool := @DV.casesOn (fun _ => Bool) d true (fun _ => false) (fun _ => false) (fun _ => false) (fun _ => false) (fun _ => false) (fun _ => false) (fun _ => false) (fun _ _ => false) (fun _ _ => false) (fun _ => false) (fun _ => false)
noncomputable def liO (o : AO) : Option (List DV) := @AO.casesOn (fun _ => Option (List DV)) o some (fun _ _ => none) (fun _ => none)
noncomputable def diO (o : AO) : Option (List Str × List DV) := @AO.casesOn (fun _ => Option (List Str × List DV)) o (fun _ => none) (fun k l => some (k, l)) (fun _ => none)
noncomputable def byO (o : AO) : Option (Array UInt8) := @AO.casesOn (fun _ => Option (Array UInt8)) o (fun _ => none) (fun _ _ => none) some
noncomputable def oneOf {α : Type} : List α → Option α
  | [] => none
  | a :: l => cond l.isEmpty (some a) none
noncomputable def twoOf {α : Type} : List α → Option (α × α)
  | [] => none
  | a :: l => (oneOf l).map fun b => (a, b)
theorem one_of {α : Type} {l : List α} {a : α} (e : oneOf l = some a) : l = [a] := by
  cases l with
  | nil => exact deadP e
  | cons b l => cases l with
    | nil => exact congrArg (fun x => [x]) (Option.some.inj e)
    | cons _ _ => exact deadP e
theorem two_of {α : Type} {l : List α} {p : α × α} (e : twoOf l = some p) : l = [p.1, p.2] := by
  cases l with
  | nil => exact deadP e
  | cons a l => exact map1 e fun b h q => q ▸ one_of h ▸ rfl
theorem intD_eq {d : DV} {i} (e : intD d = some i) : d = .int i := by cases d <;> first | exact deadP e | exact congrArg _ (Option.some.inj e)
theorem strD_eq {d : DV} {i} (e : strD d = some i) : d = .str i := by cases d <;> first | exact deadP e | exact congrArg _ (Option.some.inj e)
theorem bytD_eq {d : DV} {i} (e : bytD d = some i) : d = .bytes i := by cases d <;> first | exact deadP e | exact congrArg _ (Option.some.inj e)
theorem tupD_eq {d : DV} {i} (e : tupD d = some i) : d = .tup i := by cases d <;> first | exact deadP e | exact congrArg _ (Option.some.inj e)
theorem lstD_eq {d : DV} {i} (e : lstD d = some i) : d = .lst i := by cases d <;> first | exact deadP e | exact congrArg _ (Option.some.inj e)
theorem baD_eq {d : DV} {i} (e : baD d = some i) : d = .ba i := by cases d <;> first | exact deadP e | exact congrArg _ (Option.some.inj e)
theorem locD_eq {d : DV} {i} (e : locD d = some i) : d = .loc i := by cases d <;> first | exact deadP e | exact congrArg _ (Option.some.inj e)
theorem boolD_eq {d : DV} {i} (e : boolD d = some i) : d = .bool i := by cases d <;> first | exact deadP e | exact congrArg _ (Option.some.inj e)
theorem instD_eq {d : DV} {p} (e : instD d = some p) : d = .inst p.1 p.2 := by cases d <;> first | exact deadP e | exact smP e fun z => z ▸ rfl
theorem dctD_eq {d : DV} {p} (e : dctD d = some p) : d = .dct p.1 p.2 := by cases d <;> first | exact deadP e | exact smP e fun z => z ▸ rfl
theorem refU_eq {u : Value} {a} (e : refU u = some a) : u = .ref a := by cases u <;> first | exact deadP e | exact congrArg _ (Option.some.inj e)
theorem refD_eq {d : DV} {a} (e : refD d = some a) : d = .con (.ref a) := by
  cases d with
  | con u => exact congrArg DV.con (refU_eq e)
  | _ => exact deadP e
theorem isNo_eq {d : DV} (e : isNo d = true) : d = .none := by cases d <;> first | rfl | exact nomatch e
theorem liO_eq {o : AO} {l} (e : liO o = some l) : o = .list l := by cases o <;> first | exact deadP e | exact congrArg _ (Option.some.inj e)
theorem byO_eq {o : AO} {l} (e : byO o = some l) : o = .ba l := by cases o <;> first | exact deadP e | exact congrArg _ (Option.some.inj e)
theorem diO_eq {o : AO} {p} (e : diO o = some p) : o = .dict p.1 p.2 := by cases o <;> first | exact deadP e | exact smP e fun z => z ▸ rfl
noncomputable def listAt (σ : List AO) (i : Nat) : Option (List DV) := (σ[i]?).bind liO
noncomputable def dictAt (σ : List AO) (i : Nat) : Option (List Str × List DV) := (σ[i]?).bind diO
noncomputable def baAt (σ : List AO) (i : Nat) : Option (Array UInt8) := (σ[i]?).bind byO
theorem listAt_eq {σ : List AO} {i l} (e : listAt σ i = some l) : σ[i]? = some (.list l) := bnd1 e fun o h1 h2 => by rw [h1, liO_eq h2]
theorem dictAt_eq {σ : List AO} {i p} (e : dictAt σ i = some p) : σ[i]? = some (.dict p.1 p.2) := bnd1 e fun o h1 h2 => by rw [h1, diO_eq h2]
theorem baAt_eq {σ : List AO} {i b} (e : baAt σ i = some b) : σ[i]? = some (.ba b) := bnd1 e fun o h1 h2 => by rw [h1, byO_eq h2]
theorem elimO {α β : Type} {X : Prop} {o : Option α} {d : Option β} {f : α → Option β} {r : β} (e : o.elim d f = some r) (k0 : o = none → d = some r → X) (k1 : ∀ a, o = some a → f a = some r → X) : X := by
  cases o with
  | none => exact k0 rfl e
  | some a => exact k1 a rfl e
theorem condO {β : Type} {X : Prop} {b : Bool} {x y : Option β} {r : β} (e : cond b x y = some r) (k1 : b = true → x = some r → X) (k0 : b = false → y = some r → X) : X := by
  cases b with
  | false => exact k0 rfl e
  | true => exact k1 rfl e
inductive BI where
  | len | sum | max | str | bytes | bytearray | list | tuple
  deriving DecidableEq
noncomputable def BI.val : BI → Value
  | .len => .builtin "len" | .sum => .builtin "sum" | .max => .builtin "max" | .str => .type "str" | .bytes => .type "bytes"
  | .bytearray => .type "bytearray" | .list => .type "list" | .tuple => .type "tuple"
inductive IK where
  | seq | pairs | range | enum
  deriving DecidableEq
inductive IE where
  | stk
  | v (i : Nat)
  | k (d : DV)
  | g (u : Value)
  | bin (m : Bool) (op : Operator) (a b : IE)
  | neg (a : IE)
  | not (a : IE)
  | cmp (op : CmpOp) (a b : IE)
  | and (a b : IE)
  | or (a b : IE)
  | ite (c a b : IE)
  | tup (l : List IE)
  | lst (m : Bool) (l : List IE)
  | dct (m : Bool) (ks : List Str) (l : List IE)
  | attr (a : IE) (n : Str)
  | sub (a i : IE)
  | sl (a : IE) (lo hi st : Option IE)
  | call (f : IE) (l : List IE)
  | prim (m : Bool) (b : BI) (l : List IE)
  | meth (C f : Addr) (nm : Str) (a : IE) (l : List IE)
  | app (a x : IE)
  | pop (a x : IE)
  | dget (a x : IE)
  | comp (ik : IK) (src : IE) (vs : List Nat) (elt : IE)
inductive IT where
  | nm (i : Nat)
  | at (o : IE) (n : Str)
  | it (o i : IE)
  | sl (o lo hi : IE)
inductive IS where
  | asg (t : IT) (e : IE)
  | asgs (rev : Bool) (ts : List IT) (e : IE)
  | ex (e : IE)
  | ret (e : Option IE)
  | ifS (c : IE) (a b : List IS)
  | whl (c : IE) (b : List IS)
  | for_ (vs : List Nat) (ik : IK) (src : IE) (b : List IS)
  | forZ (i j : Nat) (a b : IE) (body : List IS)
  | cont
inductive Fl where
  | next | cont | ret (d : DV)
noncomputable def lim : Nat := 2 ^ 4096
noncomputable def big : Nat := 100000
noncomputable def binI (op : Operator) (a b : Int) : Option Int := match op with
  | .Add => some (a + b)
  | .Sub => some (a - b)
  | .Mult => if a.natAbs < lim ∧ b.natAbs < lim then some (a * b) else none
  | .MatMult => none
  | .Div => none
  | .Mod => if 0 < b then some (a % b) else none
  | .Pow => if 0 ≤ b ∧ b ≤ big ∧ a.natAbs < 2 ^ 64 then some (a ^ b.toNat) else none
  | .LShift => if a.natAbs < lim ∧ 0 ≤ b ∧ b ≤ big then some (a * 2 ^ b.toNat) else none
  | .RShift => if 0 ≤ b then some (a / 2 ^ b.toNat) else none
  | .BitOr => some (Builtin.bitOr a b)
  | .BitXor => some (Builtin.bitXor a b)
  | .BitAnd => some (Builtin.bitAnd a b)
  | .FloorDiv => if 0 < b ∧ b.natAbs < lim then some (a / b) else none
noncomputable def repL (l : List DV) : Nat → List DV
  | 0 => []
  | n + 1 => l ++ repL l n
noncomputable def bytB (op : Operator) (x : Array UInt8) (d : DV) : Option DV := (bytD d).elim
  ((intD d).bind fun n => if op = .Mult ∧ x.size = 1 ∧ 0 ≤ n ∧ n ≤ 1000 then some (.bytes (Array.replicate n.toNat (x.getD 0 0))) else none)
  fun y => if op = .Add ∧ x.size + y.size ≤ big then some (.bytes (x ++ y)) else none
noncomputable def lstB (op : Operator) (x : List DV) (d : DV) : Option DV := (lstD d).elim
  ((intD d).bind fun n => (oneOf x).bind fun e => (intD e).bind fun i => if op = .Mult ∧ 0 ≤ n ∧ n ≤ 1000 then some (.lst (List.replicate n.toNat (.int i))) else none)
  fun y => if op = .Add ∧ x.length + y.length ≤ big then some (.lst (x ++ y)) else none
noncomputable def binV (op : Operator) (d e : DV) : Option DV :=
  (intD d).elim ((strD d).elim ((bytD d).elim ((lstD d).bind fun x => lstB op x e) fun x => bytB op x e)
    fun x => (strD e).bind fun y => if op = .Add ∧ (x ++ y).length ≤ big then some (.str (x ++ y)) else none)
    fun a => (intD e).bind fun b => (binI op a b).map .int
noncomputable def items (σ : Sg) (d : DV) : Option (List DV) := (lstD d).elim ((locD d).bind (listAt σ)) some
noncomputable def bytesOf (σ : Sg) (d : DV) : Option (Array UInt8) := (baD d).elim ((locD d).bind (baAt σ)) some
noncomputable def dictOf' (σ : Sg) (d : DV) : Option (List Str × List DV) := (dctD d).elim ((locD d).bind (dictAt σ)) some
noncomputable def mapD {α : Type} (f : DV → Option α) : List DV → Option (List α)
  | [] => some []
  | d :: r => (f d).bind fun i => (mapD f r).map (i :: ·)
noncomputable def intsL (l : List DV) : Option (List Int) := mapD intD l
noncomputable def strsL (l : List DV) : Option (List Str) := mapD strD l
noncomputable def nonesL (l : List DV) : Option (List Bool) := mapD nonD l
noncomputable def lookD (k : Str) : List Str → List DV → Option DV
  | k' :: ks, d :: ds => if k' = k then some d else lookD k ks ds
  | _, _ => none
noncomputable def setD (k : Str) (v : DV) : List Str → List DV → List DV
  | k' :: ks, d :: ds => (if k' = k then v else d) :: setD k v ks ds
  | _, _ => []
noncomputable def putD (k : Str) (v : DV) (ks : List Str) (ds : List DV) : List Str × List DV :=
  if k ∈ ks then (ks, setD k v ks ds) else (ks ++ [k], ds ++ [v])
noncomputable def eqI (σ : Sg) (x y : DV) : Option Bool := (items σ x).bind fun a => (items σ y).bind fun b => (intsL a).bind fun as => (intsL b).bind fun bs => some (decide (as = bs))
noncomputable def neI (σ : Sg) (x y : DV) : Option Bool := (items σ x).bind fun a => (items σ y).bind fun b => (intsL a).bind fun as => (intsL b).bind fun bs => some (!decide (as = bs))
noncomputable def eqV (σ : Sg) (x y : DV) : Option Bool := (strD y).elim
  ((tupD y).elim (cond (isNo y) (cond (isNo x) (some true) none) (eqI σ x y)) fun b => (tupD x).bind fun a => (strsL a).bind fun a => (strsL b).bind fun b => some (decide (a = b)))
  fun b => (strD x).elim ((nonD x).map fun _ => false) fun a => some (decide (a = b))
noncomputable def neV (σ : Sg) (x y : DV) : Option Bool := (strD y).elim (cond (isNo y) (cond (isNo x) (some false) none) (neI σ x y)) fun b => (strD x).bind fun a => some (!decide (a = b))
noncomputable def inV (σ : Sg) (x y : DV) : Option Bool := (strD x).elim (cond (isNo x) ((lstD y).bind fun l => (nonesL l).map fun bs => decide (true ∈ bs)) none)
  fun x => (tupD y).elim ((lstD y).elim ((dictOf' σ y).map fun p => decide (x ∈ p.1)) fun l => (strsL l).map fun ss => decide (x ∈ ss)) fun l => (strsL l).map fun ss => decide (x ∈ ss)
noncomputable def intC (f : Int → Int → Bool) (x y : DV) : Option Bool := (intD x).bind fun a => (intD y).bind fun b => some (f a b)
noncomputable def cmpV (σ : Sg) (op : CmpOp) (x y : DV) : Option Bool := match op with
  | .Eq => (intD x).elim (eqV σ x y) fun a => (intD y).elim (eqV σ x y) fun b => some (decide (a = b))
  | .NotEq => (intD x).elim (neV σ x y) fun a => (intD y).elim (neV σ x y) fun b => some (decide (a ≠ b))
  | .Lt => intC (fun a b => decide (a < b)) x y
  | .LtE => intC (fun a b => decide (a ≤ b)) x y
  | .Gt => intC (fun a b => decide (b < a)) x y
  | .GtE => intC (fun a b => decide (b ≤ a)) x y
  | .Is => cond (isNo y) (isT x) none
  | .IsNot => cond (isNo y) (notT x) none
  | .In => inV σ x y
  | .NotIn => (inV σ x y).map (!·)
noncomputable def nth (l : List DV) (i : Int) : Option DV := if 0 ≤ i then (if i < big then l[i.toNat]? else none) else if -(l.length : Int) ≤ i ∧ -(big : Int) ≤ i then l[(i + l.length).toNat]? else none
noncomputable def subV (σ : Sg) (d e : DV) : Option DV := (intD e).elim ((strD e).bind fun k => (dictOf' σ d).bind fun p => lookD k p.1 p.2) fun i =>
  (tupD d).elim ((bytD d).elim ((items σ d).bind fun l => nth l i) fun b => if 0 ≤ i ∧ b.size ≤ big then (b[i.toNat]?).map fun x => .int x.toNat else none)
    fun l => if 0 ≤ i then nth l i else none
noncomputable def slPick (l : List DV) (lo hi st : Option Int) : List DV :=
  (sliceRange (sliceBounds lo hi st l.length).1 (sliceBounds lo hi st l.length).2.1 (sliceBounds lo hi st l.length).2.2).filterMap (l[·]?)
noncomputable def baPick (b : Array UInt8) (lo hi : Option Int) : Array UInt8 :=
  ((sliceRange (sliceBounds lo hi none b.size).1 (sliceBounds lo hi none b.size).2.1 (sliceBounds lo hi none b.size).2.2).filterMap (b[·]?)).toArray
noncomputable def partV (d : DV) : Option (Option Int) := (intD d).elim (cond (isNo d) (some none) none) fun i => some (some i)
noncomputable def sliceV (σ : Sg) (d : DV) (lo hi st : DV) : Option DV :=
  (partV lo).bind fun lo => (partV hi).bind fun hi => (partV st).bind fun st =>
    (items σ d).elim ((bytesOf σ d).bind fun b => if (baPick b lo hi).size ≤ big ∧ st = none then some (.ba (baPick b lo hi)) else none)
      fun l => if l.length ≤ 2 ^ 20 ∧ st ≠ some 0 then some (.lst (slPick l lo hi st)) else none
noncomputable def fin (m : Bool) (d : DV) (σ : Sg) : Option (DV × Sg) := cond m ((objD d).map fun o => (.loc σ.length, σ ++ [o])) (some (d, σ))
noncomputable def lenV (σ : Sg) (d : DV) : Option DV := (tupD d).elim ((bytD d).elim ((items σ d).elim ((bytesOf σ d).bind fun b => if b.size ≤ big then some (.int b.size) else none)
  fun l => if l.length ≤ big then some (.int l.length) else none) fun b => if b.size ≤ big then some (.int b.size) else none) fun l => if l.length ≤ big then some (.int l.length) else none
noncomputable def octsV (l : List DV) : Option (Array UInt8) := (intsL l).bind fun ns => if (∀ n ∈ ns, 0 ≤ n ∧ n < 256) ∧ ns.length ≤ big then some (byteArr ns) else none
noncomputable def bytesV (d : DV) : Option DV := (bytD d).elim ((baD d).elim ((lstD d).bind fun l => (octsV l).map .bytes) fun b => if b.size ≤ big then some (.bytes b) else none) fun b => some (.bytes b)
noncomputable def baV (d : DV) : Option DV := (intD d).elim ((bytD d).elim ((lstD d).bind fun l => (octsV l).map .ba) fun b => if b.size ≤ big then some (.ba b) else none)
  fun n => if 0 < n ∧ n ≤ 1000 then some (.ba (Array.replicate n.toNat 0)) else none
noncomputable def primV (σ : Sg) (b : BI) (l : List DV) : Option DV := match b with
  | .len => (oneOf l).bind (lenV σ)
  | .sum => (oneOf l).bind fun d => (lstD d).bind fun l => (intsL l).map fun ns => .int ns.sum
  | .max => (twoOf l).bind fun p => (intD p.1).bind fun a => (intD p.2).bind fun b => some (.int (max a b))
  | .str => (oneOf l).bind fun d => (intD d).bind fun a => if 0 ≤ a ∧ a < 10 then some (.str (Str.ofString (toString a))) else none
  | .bytes => (oneOf l).bind bytesV
  | .bytearray => (oneOf l).bind baV
  | .list => (oneOf l).bind fun d => (bytesOf σ d).bind fun b => if b.size ≤ big then some (.lst (b.toList.map fun x => .int x.toNat)) else none
  | .tuple => (oneOf l).bind fun d => (lstD d).bind fun l => if l.length ≤ big then some (.tup l) else none
noncomputable def asB : DV → Option Bool := boolD
noncomputable def evL (f : IE → Sg → Option (DV × Sg)) : List IE → Sg → Option (List DV × Sg)
  | [], σ => some ([], σ)
  | e :: r, σ => (f e σ).bind fun p => (evL f r p.2).bind fun q => some (p.1 :: q.1, q.2)
noncomputable def evO (f : IE → Sg → Option (DV × Sg)) : Option IE → Sg → Option (DV × Sg)
  | none, σ => some (.none, σ)
  | some e, σ => f e σ
noncomputable def enumL : Nat → List DV → List (List DV)
  | _, [] => []
  | k, d :: r => [.int k, d] :: enumL (k + 1) r
noncomputable def tupsL (l : List DV) : Option (List (List DV)) := mapD tupD l
noncomputable def seqL (d : DV) : Option (List (List DV)) := (lstD d).elim ((tupD d).elim ((bytD d).elim ((baD d).map fun b => b.toList.map fun x => [.int x.toNat]) fun b => some (b.toList.map fun x => [.int x.toNat]))
  fun l => some (l.map ([·]))) fun l => some (l.map ([·]))
noncomputable def itemsOf (ik : IK) (d : DV) : Option (List (List DV)) := match ik with
  | .seq => seqL d
  | .pairs => (tupD d).bind tupsL
  | .range => (intD d).bind fun n => if 0 ≤ n ∧ n ≤ big then some ((List.range n.toNat).map fun (k : Nat) => [DV.int (k : Int)]) else none
  | .enum => (lstD d).map (enumL 0)
noncomputable def setAll : Rho → List Nat → List DV → Option Rho
  | ρ, [], [] => some ρ
  | ρ, i :: is, d :: ds => if i < ρ.length then setAll (ρ.set i (some d)) is ds else none
  | _, _, _ => none
noncomputable def compL (f : List DV → Sg → Option (DV × Sg)) : List (List DV) → Sg → Option (List DV × Sg)
  | [], σ => some ([], σ)
  | x :: r, σ => (f x σ).bind fun p => (compL f r p.2).bind fun q => some (p.1 :: q.1, q.2)
noncomputable def ev (H : Hd) : Nat → IE → Rho → Sg → Option (DV × Sg)
  | 0, _, _, _ => none
  | n + 1, e, ρ, σ => match e with
    | .v i => (ρ.getD i none).bind fun d => some (d, σ)
    | .k d => some (d, σ)
    | .stk => none
    | .g u => some (.con u, σ)
    | .bin m op a b => (ev H n a ρ σ).bind fun p => (ev H n b ρ p.2).bind fun q => (binV op p.1 q.1).bind fun d => fin m d q.2
    | .neg a => (ev H n a ρ σ).bind fun p => (intD p.1).bind fun i => some (.int (-i), p.2)
    | .not a => (ev H n a ρ σ).bind fun p => (asB p.1).bind fun b => some (.bool !b, p.2)
    | .cmp op a b => (ev H n a ρ σ).bind fun p => (ev H n b ρ p.2).bind fun q => (cmpV q.2 op p.1 q.1).bind fun d => some (.bool d, q.2)
    | .and a b => (ev H n a ρ σ).bind fun p => (asB p.1).bind fun t => if t then (ev H n b ρ p.2).bind fun q => (asB q.1).bind fun u => some (.bool u, q.2) else some (.bool false, p.2)
    | .or a b => (ev H n a ρ σ).bind fun p => (asB p.1).bind fun t => if t then some (.bool true, p.2) else (ev H n b ρ p.2).bind fun q => (asB q.1).bind fun u => some (.bool u, q.2)
    | .ite c a b => (ev H n c ρ σ).bind fun p => (asB p.1).bind fun t => if t then ev H n a ρ p.2 else ev H n b ρ p.2
    | .tup l => if l.length ≤ big then (evL (fun e s => ev H n e ρ s) l σ).bind fun p => some (.tup p.1, p.2) else none
    | .lst m l => if l.length ≤ big then (evL (fun e s => ev H n e ρ s) l σ).bind fun p => fin m (.lst p.1) p.2 else none
    | .dct m ks l => if l.length ≤ 15 ∧ ks.length = l.length ∧ ks.Nodup then (evL (fun e s => ev H n e ρ s) l σ).bind fun p => fin m (.dct ks p.1) p.2 else none
    | .attr a nm => (ev H n a ρ σ).bind fun p => (instD p.1).bind fun i => (dictOf' p.2 (.loc i.2)).bind fun q => (lookD nm q.1 q.2).bind fun d => some (d, p.2)
    | .sub a i => (ev H n a ρ σ).bind fun p => (ev H n i ρ p.2).bind fun q => (subV q.2 p.1 q.1).bind fun d => some (d, q.2)
    | .sl a lo hi st => (ev H n a ρ σ).bind fun p => (evO (fun e s => ev H n e ρ s) lo p.2).bind fun q => (evO (fun e s => ev H n e ρ s) hi q.2).bind fun r =>
        (evO (fun e s => ev H n e ρ s) st r.2).bind fun t => (sliceV t.2 p.1 q.1 r.1 t.1).bind fun d => some (d, t.2)
    | .call f l => (ev H n f ρ σ).bind fun p => (refD p.1).bind fun a => (evL (fun e s => ev H n e ρ s) l p.2).bind fun q => H a q.1 q.2
    | .prim m b l => (evL (fun e s => ev H n e ρ s) l σ).bind fun p => (primV p.2 b p.1).bind fun d => fin m d p.2
    | .meth C f nm a l => (ev H n a ρ σ).bind fun p => (instD p.1).bind fun i => if i.1 = C then (dictOf' p.2 (.loc i.2)).bind fun r => if nm ∈ r.1 then none else (evL (fun e s => ev H n e ρ s) l p.2).bind fun q => H f (.inst C i.2 :: q.1) q.2 else none
    | .app a x => (ev H n a ρ σ).bind fun p => (locD p.1).bind fun i => (items p.2 (.loc i)).bind fun _ => (ev H n x ρ p.2).bind fun q => (listAt q.2 i).bind fun l =>
        if l.length ≤ big then some (.none, q.2.set i (.list (l ++ [q.1]))) else none
    | .pop a x => (ev H n a ρ σ).bind fun p => (locD p.1).bind fun i => (items p.2 (.loc i)).bind fun _ => (ev H n x ρ p.2).bind fun q => (intD q.1).bind fun k => (listAt q.2 i).bind fun l =>
        if 0 ≤ k ∧ k < big ∧ l.length ≤ big then (l[k.toNat]?).bind fun d => some (d, q.2.set i (.list (l.eraseIdx k.toNat))) else none
    | .dget a x => (ev H n a ρ σ).bind fun p => (dictOf' p.2 p.1).bind fun _ => (ev H n x ρ p.2).bind fun q => (strD q.1).bind fun k => (dictOf' q.2 p.1).bind fun r => some ((lookD k r.1 r.2).getD .none, q.2)
    | .comp ik src vs elt => (ev H n src ρ σ).bind fun p => (itemsOf ik p.1).bind fun its =>
        if its.length ≤ big then (compL (fun x s => (setAll ρ vs x).bind fun ρ' => ev H n elt ρ' s) its p.2).bind fun q => some (.lst q.1, q.2) else none
noncomputable def asgT (H : Hd) (n : Nat) (t : IT) (d : DV) (ρ : Rho) (σ : Sg) : Option (Rho × Sg) := match t with
  | .nm i => if i < ρ.length then some (ρ.set i (some d), σ) else none
  | .at o nm => (ev H n o ρ σ).bind fun p => (instD p.1).bind fun i => (dictOf' p.2 (.loc i.2)).bind fun q => if q.1.length ≤ 100 then some (ρ, p.2.set i.2 (.dict (putD nm d q.1 q.2).1 (putD nm d q.1 q.2).2)) else none
  | .it o ie => (ev H n o ρ σ).bind fun p => (ev H n ie ρ p.2).bind fun q => (locD p.1).bind fun i => (strD q.1).elim
      ((intD q.1).bind fun k => (listAt q.2 i).bind fun l => if 0 ≤ k ∧ k < big ∧ k < l.length then some (ρ, q.2.set i (.list (l.set k.toNat d))) else none)
      fun k => (dictOf' q.2 (.loc i)).bind fun r => if r.1.length ≤ 100 then some (ρ, q.2.set i (.dict (putD k d r.1 r.2).1 (putD k d r.1 r.2).2)) else none
  | .sl o lo hi => (ev H n o ρ σ).bind fun p => (ev H n lo ρ p.2).bind fun q => (ev H n hi ρ q.2).bind fun r => (locD p.1).bind fun i => (intD q.1).bind fun a => (intD r.1).bind fun b => (bytD d).bind fun x => (baAt r.2 i).bind fun y =>
      if 0 ≤ a ∧ a ≤ b ∧ b ≤ y.size ∧ (x.size : Int) = b - a ∧ y.size ≤ big then some (ρ, r.2.set i (.ba (y.extract 0 a.toNat ++ x ++ y.extract b.toNat y.size))) else none
noncomputable def asgL (H : Hd) (n : Nat) : List IT → List DV → Rho → Sg → Option (Rho × Sg)
  | [], [], ρ, σ => some (ρ, σ)
  | t :: ts, d :: ds, ρ, σ => (asgT H n t d ρ σ).bind fun p => asgL H n ts ds p.1 p.2
  | _, _, _, _ => none
noncomputable abbrev Out := Option (Fl × Rho × Sg)
noncomputable def nextF (f : Rho → Sg → Out) (p : Fl × Rho × Sg) : Out := @Fl.casesOn (fun _ => Out) p.1 (f p.2.1 p.2.2) (some p) (fun _ => some p)
noncomputable def turnF (f : Rho → Sg → Out) (p : Fl × Rho × Sg) : Out := @Fl.casesOn (fun _ => Out) p.1 (f p.2.1 p.2.2) (f p.2.1 p.2.2) (fun _ => some p)
noncomputable def exL (f : IS → Rho → Sg → Out) : List IS → Rho → Sg → Out
  | [], ρ, σ => some (.next, ρ, σ)
  | s :: r, ρ, σ => (f s ρ σ).bind (nextF (exL f r))
noncomputable def whL (c : Rho → Sg → Option (DV × Sg)) (b : Rho → Sg → Out) : Nat → Rho → Sg → Out
  | 0, _, _ => none
  | k + 1, ρ, σ => (c ρ σ).bind fun p => (asB p.1).bind fun t => if t then (b ρ p.2).bind (turnF (whL c b k)) else some (.next, ρ, p.2)
noncomputable def forL (f : List DV → Rho → Sg → Out) : List (List DV) → Rho → Sg → Out
  | [], ρ, σ => some (.next, ρ, σ)
  | x :: r, ρ, σ => (f x ρ σ).bind (turnF (forL f r))
noncomputable def forZL (f : List DV → Rho → Sg → Out) (la : Nat) : Nat → List DV → Rho → Sg → Out
  | _, [], ρ, σ => (items σ (.loc la)).bind fun _ => some (.next, ρ, σ)
  | k, y :: r, ρ, σ => (items σ (.loc la)).bind fun l => (l[k]?).bind fun x => (f [x, y] ρ σ).bind (turnF (forZL f la (k + 1) r))
noncomputable def ex (H : Hd) : Nat → IS → Rho → Sg → Out
  | 0, _, _, _ => none
  | n + 1, s, ρ, σ => match s with
    | .asg t e => (ev H n e ρ σ).bind fun p => (asgT H n t p.1 ρ p.2).bind fun q => some (.next, q.1, q.2)
    | .asgs rev ts e => (ev H n e ρ σ).bind fun p => (tupD p.1).bind fun ds => (if rev then asgL H n ts.reverse ds.reverse ρ p.2 else asgL H n ts ds ρ p.2).bind fun q => some (.next, q.1, q.2)
    | .ex e => (ev H n e ρ σ).bind fun p => some (.next, ρ, p.2)
    | .ret o => o.elim (some (.ret .none, ρ, σ)) fun e => (ev H n e ρ σ).bind fun p => some (.ret p.1, ρ, p.2)
    | .ifS c a b => (ev H n c ρ σ).bind fun p => (asB p.1).bind fun t => if t then exL (ex H n) a ρ p.2 else exL (ex H n) b ρ p.2
    | .whl c b => whL (ev H n c) (exL (ex H n) b) n ρ σ
    | .for_ vs ik src b => (ev H n src ρ σ).bind fun p => (itemsOf ik p.1).bind fun its =>
        if its.length ≤ big then forL (fun x ρ' s => (setAll ρ' vs x).bind fun ρ'' => exL (ex H n) b ρ'' s) its ρ p.2 else none
    | .forZ i j a b body => (ev H n a ρ σ).bind fun p => (ev H n b ρ p.2).bind fun q => (locD p.1).bind fun la => (lstD q.1).bind fun l => if l.length ≤ big then forZL (fun x ρ' s => (setAll ρ' [i, j] x).bind fun ρ'' => exL (ex H n) body ρ'' s) la 0 l ρ q.2 else none
    | .cont => some (.cont, ρ, σ)
structure Fn where
  np : Nat
  nl : Nat
  dflt : List DV
  body : List IS
noncomputable def run (H : Hd) (f : Fn) : Fun := fun args σ =>
  if args.length ≤ f.np ∧ f.np ≤ args.length + f.dflt.length then
    (exL (ex H 64) f.body ((args ++ f.dflt.drop (args.length + f.dflt.length - f.np)).map some ++ List.replicate f.nl none) σ).bind fun r => match r.1 with
      | .ret d => some (d, r.2.2)
      | .next => some (.none, r.2.2)
      | .cont => none
  else none
noncomputable def look (l : List (Addr × Fun)) : Hd := fun a => match l.lookup a with
  | some F => F
  | none => fun _ _ => none
end
section
noncomputable def Keep (h h' : Heap) : Prop := ∀ b o, h.get? b = some o → h'.get? b = some o
theorem Keep.refl {h : Heap} : Keep h h := fun _ _ e => e
theorem Keep.push {h : Heap} (o : Obj) : Keep h (h.push o) := fun _ _ e => Heap.get?_push_of_some _ e
theorem Keep.trans {h h' h'' : Heap} (x : Keep h h') (y : Keep h' h'') : Keep h h'' := fun b o e => y b o (x b o e)
noncomputable def Pz (c : Cx) (M P : List Addr) (d : DV) (s : Shared) (Q : Value → Shared → Prop) : Prop :=
  ∀ v h' tk, Keep s.heap h' → VR c M P h' d v → Q v { s with heap := h', toks := tk }
section
variable {c : Cx} {A : Around} {P M : List Addr} {σ : Sg} {s : Shared} {E : Value → Shared → Prop} {Q : Value → Shared → Prop}
theorem Pz.int {i : Int} {t tk : Tok} (q : Pz c M P (.int i) s Q) : Q (.int i t) { s with toks := tk } := q _ _ _ Keep.refl ⟨t, rfl⟩
theorem Pz.bool {b : Bool} {tk : Tok} (q : Pz c M P (.bool b) s Q) : Q (.bool b) { s with toks := tk } := q _ _ _ Keep.refl rfl
theorem Pz.bool' {b : Bool} (q : Pz c M P (.bool b) s Q) : Q (.bool b) s := q _ _ s.toks Keep.refl rfl
theorem lim_log {a : Int} (h : a.natAbs < lim) : a.natAbs.log2 < 4096 := by
  rcases Nat.eq_zero_or_pos a.natAbs with e | e
  · rw [e]; decide
  · exact (Nat.log2_lt (Nat.ne_of_gt e)).mpr h
theorem lim_bits {a : Int} (h : a.natAbs < lim) : Builtin.Int.intBits a ≤ 4096 := by
  have := lim_log h
  unfold Builtin.Int.intBits
  split <;> lia
theorem fdiv_pos {a b : Int} (h : 0 < b) : a.fdiv b = a / b := by rw [Int.fdiv_eq_ediv_of_nonneg _ (Int.le_of_lt h)]
theorem fmod_pos {a b : Int} (h : 0 < b) : a.fmod b = a % b := by rw [Int.fmod_eq_emod_of_nonneg _ (Int.le_of_lt h)]
theorem mul_ok {a b : Int} (h1 : Builtin.Int.intBits a ≤ 4096) (h2 : Builtin.Int.intBits b ≤ 4096) : IntMulOk a b := by
  unfold IntMulOk
  intro z
  simp only [Bool.and_eq_true, decide_eq_true_eq, Builtin.Int.intTooBig] at z
  have : (bitsLine : Int) = 134217728 := by decide
  lia
theorem shl_ok {a b : Int} (h1 : Builtin.Int.intBits a ≤ 4096) (h2 : b ≤ big) : (Builtin.Int.intBits a : Int) + b ≤ 2 ^ 27 := by
  have h3 : (big : Int) = 100000 := rfl
  lia
theorem binI_sound {op : Operator} {a b r : Int} {t u : Tok} (e : binI op a b = some r) (q : Pz c M P (.int r) s Q) : wpAny c.M A (binaryOp op (.int a t) (.int b u)) Q E s := by
  cases op with
  | Add => exact smP e fun z => by subst z; exact add_int q.int
  | Sub => exact smP e fun z => by subst z; exact sub_int q.int
  | Mult =>
    refine ifP e ?_; clear e; intro h e
    refine smP e ?_; clear e; rintro rfl
    refine mul_int q.int ?_
    have h1 := lim_bits h.1
    have h2 := lim_bits h.2
    exact mul_ok h1 h2
  | FloorDiv =>
    refine ifP e ?_; clear e; intro h e
    refine smP e ?_; clear e; rintro rfl
    have := q.int (t := s.toks) (tk := s.toks + 1)
    rw [← fdiv_pos h.1] at this
    exact floordiv_int (Int.ne_of_gt h.1) this (Or.inl (PyProof.noPylong_of_log2 (Nat.lt_trans (lim_log h.2) (by decide))))
  | Mod =>
    refine ifP e ?_; clear e; intro h e
    refine smP e ?_; clear e; rintro rfl
    have := q.int (t := s.toks) (tk := s.toks + 1)
    rw [← fmod_pos h] at this
    exact mod_int' (Int.ne_of_gt h) this
  | Pow =>
    refine ifP e ?_; clear e; intro h e
    refine smP e ?_; clear e; rintro rfl
    exact pow_int_small h.1 (Int.le_trans h.2.1 (by decide)) h.2.2 q.int
  | LShift =>
    refine ifP e ?_; clear e; intro h e
    refine smP e ?_; clear e; rintro rfl
    exact lshift_int h.2.1 (shl_ok (lim_bits h.1) h.2.2) q.int
  | RShift =>
    refine ifP e ?_; clear e; intro h e
    refine smP e ?_; clear e; rintro rfl
    have := q.int (t := s.toks) (tk := s.toks + 1)
    rw [← fdiv_pos (Int.pow_pos (by decide : (0 : Int) < 2))] at this
    exact rshift_int h this
  | BitAnd => exact smP e fun z => by subst z; exact and_int q.int
  | BitOr => exact smP e fun z => by subst z; exact or_int q.int
  | BitXor => exact smP e fun z => by subst z; exact xor_int q.int
  | MatMult => exact deadP e
  | Div => exact deadP e
theorem neg_sound {a : Int} {t : Tok} (q : Pz c M P (.int (-a)) s Q) : wpAny c.M A (unaryOp .USub (.int a t)) Q E s := neg_int q.int
theorem str_add_sound {x y : Str} {t u : Tok} (hz : (x ++ y).length ≤ big) (q : Pz c M P (.str (x ++ y)) s Q) : wpAny c.M A (binaryOp .Add (.str x t) (.str y u)) Q E s := by
  refine PySem.P.add_str ?_
  have emp : ∀ z : Str, (z.length == 0) = true → z = ⟨#[]⟩ := fun z hz => by
    cases z with
    | mk cps =>
      have : cps.size = 0 := by simpa [Str.length] using hz
      rw [Array.eq_empty_of_size_eq_zero this]
  have e1 : ∀ z : Str, (⟨#[]⟩ : Str) ++ z = z := fun z => by cases z; show Str.mk (#[] ++ _) = _; simp
  have e2 : ∀ z : Str, z ++ (⟨#[]⟩ : Str) = z := fun z => by cases z; show Str.mk (_ ++ #[]) = _; simp
  split
  · rename_i h
    rw [emp x h, e1] at q
    exact q _ _ s.toks Keep.refl ⟨u, rfl⟩
  · split
    · rename_i h
      rw [emp y h, e2] at q
      exact q _ _ s.toks Keep.refl ⟨t, rfl⟩
    · exact ⟨by rw [sizeLine_eq]; exact Nat.le_trans hz (by decide), q _ _ _ Keep.refl ⟨_, rfl⟩⟩
theorem bytes_add_sound {x y : Array UInt8} {t u : Tok} (hz : x.size + y.size ≤ big) (q : Pz c M P (.bytes (x ++ y)) s Q) : wpAny c.M A (binaryOp .Add (.bytes x t) (.bytes y u)) Q E s :=
  KBy.add_bytes (Nat.le_trans hz (by decide)) fun t' k => q _ _ _ Keep.refl ⟨t', rfl⟩
theorem flat_rep {α : Type} (x : α) : ∀ n : Nat, (List.replicate n [x]).flatten = List.replicate n x
  | 0 => rfl
  | n + 1 => by rw [List.replicate_succ, List.flatten_cons, flat_rep x n, List.replicate_succ]; rfl
theorem bytes_mul_sound {x : Array UInt8} {n : Int} {t u : Tok} (h1 : x.size = 1) (h0 : 0 ≤ n) (hn : n ≤ 1000) (q : Pz c M P (.bytes (Array.replicate n.toNat (x.getD 0 0))) s Q) : wpAny c.M A (binaryOp .Mult (.bytes x t) (.int n u)) Q E s := by
  have e : x = [x.getD 0 0].toArray := by
    obtain ⟨l⟩ := x
    cases l with
    | nil => simp at h1
    | cons a r => cases r with
      | nil => rfl
      | cons _ _ => simp at h1
  have g := bytes_mul_any (prog := c.prog) (w := c.w) (A := A) (E := E) (s := s) (b := [x.getD 0 0]) (n := n) (t := t) (u := u) (Q := Q) (by simp) (by lia) (by lia) (by simp) (fun t' k => by
    rw [flat_rep]
    rw [show (List.replicate n.toNat (x.getD 0 0)).toArray = Array.replicate n.toNat (x.getD 0 0) from by simp]
    exact q _ _ _ Keep.refl ⟨t', rfl⟩)
  rw [← e] at g
  exact g
theorem Pz.lst {ds : List DV} {vs : List Value} {n : Nat} (S : St c P M σ s.heap) (x : VRs c M P s.heap ds vs) (q : Pz c M P (.lst ds) s Q) (tk : Tok) : Q (.ref s.heap.objs.size) { s with heap := s.heap.push (lstO vs.toArray n), toks := tk } :=
  q _ _ _ (Keep.push _) ⟨_, vs.toArray, n, rfl, S.fresh.1, S.fresh.2.1, Heap.get?_push_size _ rfl, x.mono ((Ext.of_keep (O := []) (Keep.push _)).mono (fun _ z => nomatch z))⟩
theorem Pz.tup {ds : List DV} {vs : List Value} {n : Nat} (S : St c P M σ s.heap) (x : VRs c M P s.heap ds vs) (q : Pz c M P (.tup ds) s Q) (tk : Tok) : Q (.ref s.heap.objs.size) { s with heap := s.heap.push (tupO vs.toArray n), toks := tk } :=
  q _ _ _ (Keep.push _) ⟨_, vs.toArray, n, rfl, S.fresh.1, S.fresh.2.1, Heap.get?_push_size _ rfl, x.mono ((Ext.of_keep (O := []) (Keep.push _)).mono (fun _ z => nomatch z))⟩
theorem St.get (S : St c P M σ s.heap) {i : Nat} {a : Addr} {o : AO} (h1 : M[i]? = some a) (h2 : σ[i]? = some o) : OR c M P s.heap a o := S.objs i a o h1 h2
theorem lst_of_items (S : St c P M σ s.heap) {d : DV} {v : Value} {l : List DV} (e : items σ d = some l) (x : VR c M P s.heap d v) :
    ∃ a vs n, v = .ref a ∧ s.heap.get? a = some (lstO vs n) ∧ VRs c M P s.heap l vs.toList := by
  refine elimO e ?_ ?_ <;> clear e
  · intro _ e
    refine bnd1 e ?_; clear e; intro i h e
    cases locD_eq h
    obtain ⟨a, e1, e2⟩ := x
    obtain ⟨vs, n, e3, e4⟩ := S.get e2 (listAt_eq e)
    exact ⟨a, vs, n, e1, e3, e4⟩
  · intro l' h e
    cases lstD_eq h; cases e
    obtain ⟨a, vs, n, e1, _, _, e2, e3⟩ := x
    exact ⟨a, vs, n, e1, e2, e3⟩
theorem isList {h : Heap} {a : Addr} {vs : Array Value} {n : Nat} (e : h.get? a = some (lstO vs n)) : h.IsList a vs := ⟨_, e, rfl, n, rfl⟩
theorem isTuple {h : Heap} {a : Addr} {vs : Array Value} {n : Nat} (e : h.get? a = some (tupO vs n)) : h.IsTuple a vs := ⟨_, e, rfl, n, rfl⟩
theorem ints_are : ∀ {l : List DV} {ns : List Int} {vs : List Value}, intsL l = some ns → VRs c M P s.heap l vs → IntsAre vs ns
  | [], _, _, e, x => by cases e; cases x; exact .nil
  | d :: r, _, _, e, x => bnd1 e fun i h e => map1 e fun ns e1 z => by
    subst z
    cases intD_eq h
    obtain ⟨v, r', rfl, ⟨t, rfl⟩, x3⟩ := x
    exact .cons i t (ints_are e1 x3)
theorem strs_are : ∀ {l : List DV} {ns : List Str} {vs : List Value}, strsL l = some ns → VRs c M P s.heap l vs → StrsAre vs ns
  | [], _, _, e, x => by cases e; cases x; exact .nil
  | d :: r, _, _, e, x => bnd1 e fun i h e => map1 e fun ns e1 z => by
    subst z
    cases strD_eq h
    obtain ⟨v, r', rfl, ⟨t, rfl⟩, x3⟩ := x
    exact .cons i t (strs_are e1 x3)
theorem lst_add_sound (S : St c P M σ s.heap) {x y : List DV} {a b : Value} (hx : VR c M P s.heap (.lst x) a) (hy : VR c M P s.heap (.lst y) b) (hz : x.length + y.length ≤ big)
    (q : ∀ vs n, VRs c M P s.heap (x ++ y) vs → Q (.ref s.heap.objs.size) { s with heap := s.heap.push (lstO vs.toArray n) }) : wpAny c.M A (binaryOp .Add a b) Q E s := by
  obtain ⟨la, va, na, rfl, _, _, e1, e2⟩ := hx
  obtain ⟨lb, vb, nb, rfl, _, _, e3, e4⟩ := hy
  refine PySem.P.add_list e1 e3 ?_ ?_
  · have := q (va ++ vb).toList 0 (by rw [Array.toList_append]; exact e2.append e4)
    rw [Array.toArray_toList] at this
    exact this
  · have h1 := e2.length; have h2 := e4.length
    rw [sizeLine_eq]
    have : big ≤ 16777216 := by decide
    simp at h1 h2; lia
theorem rep_foldl (v : Value) : ∀ (n : Nat) (acc : Array Value), List.foldl (fun x1 x2 => x1 ++ x2) acc (List.replicate n #[v]) = acc ++ Array.replicate n v
  | 0, acc => by simp
  | n + 1, acc => by
    rw [List.replicate_succ, List.foldl_cons, rep_foldl v n]
    apply Array.toList_inj.mp
    simp [List.replicate_succ]
theorem VRs.rep {d : DV} {v : Value} (x : VR c M P s.heap d v) : ∀ n, VRs c M P s.heap (List.replicate n d) (List.replicate n v)
  | 0 => VRs.nil
  | n + 1 => VRs.cons x (VRs.rep x n)
theorem lst_mul_sound (S : St c P M σ s.heap) {x : Int} {n : Int} {a : Value} {u : Tok} (hx : VR c M P s.heap (.lst [.int x]) a) (h0 : 0 ≤ n) (hn : n ≤ 1000)
    (q : ∀ vs k, VRs c M P s.heap (List.replicate n.toNat (.int x)) vs → Q (.ref s.heap.objs.size) { s with heap := s.heap.push (lstO vs.toArray k) }) : wpAny c.M A (binaryOp .Mult a (.int n u)) Q E s := by
  obtain ⟨la, va, na, rfl, _, _, e1, e2⟩ := hx
  obtain ⟨l⟩ := va
  unfold VRs at e2
  refine exQ3 e2 ?_; clear e2; rintro v r e3 ⟨t, rfl⟩ e4
  unfold VRs at e4
  subst e4
  simp only at e3
  subst e3
  refine wpAny_binaryOp_repeat_ref (T := "list") (U := "int") (by decide) ⟨_, e1, rfl⟩ (fun s' => typeIs_int s' n u) noFill_list_mul F.fills_int_mul F.slot_int_rmul repeat_list F.slot_int_index.lookup
    (call_meets F.slot_int_rmul (typeIs_int s n u) F.entry_int_rmul (F.args_int_rmul_2 _ _) (int___rmul___int_list n u la #[Value.int x t] na)
      ⟨e1, rfl, ⟨_, e1, rfl⟩, call_meets F.slot_list_mul ⟨_, e1, rfl⟩ F.entry_list_mul (F.args_list_mul_2 _ _)
        (AutoListH.list___mul___list_int_3 la #[Value.int x t] na n u (by simp [Builtin.List.listFitsIndex]; lia) (by simp; lia) (by simp [Builtin.List.listTooLong, sizeLine]; lia))
        ⟨e1, ?_⟩⟩)
  have := q (List.replicate n.toNat (Value.int x t)) 0 (VRs.rep (d := .int x) (by unfold VR; exact ⟨t, rfl⟩) _)
  rw [show (if (#[Value.int x t] : Array Value).isEmpty = true then 0 else n.toNat) = n.toNat from by simp, rep_foldl]
  simpa using this
end
end
section
section
variable {c : Cx} {A : Around} {P M : List Addr} {σ : Sg} {s : Shared} {E : Value → Shared → Prop} {Q : Value → Shared → Prop}
theorem beq_dec {α : Type} [DecidableEq α] (x y : α) : (x == y) = decide (x = y) := by by_cases h : x = y <;> simp [h]
theorem eqAt_none_none (A : Around) (s : Shared) : SeqAt.EqAt A s .none .none true := fun prog w E Q h => by
  unfold eqBool
  exact wpAny_holding (wpAny_ite_split (fun _ => wpAny_bind (wpAny_rule (wpAny_pure h))) fun z => absurd rfl z)
theorem str_toList_eq (x y : Str) : (x.cps.toList == y.cps.toList) = decide (x = y) := by
  rw [SeqAt.str_beq]; exact beq_dec x y
theorem str_toList_ne (x y : Str) : (x.cps.toList != y.cps.toList) = !decide (x = y) := by
  show (!(x.cps.toList == y.cps.toList)) = _
  rw [str_toList_eq]
noncomputable def isS (x : Str) : Value → Bool
  | .str z _ => z == x
  | _ => false
theorem any_isS {x : Str} : ∀ {ys : List Str} {vs : List Value}, StrsAre vs ys → vs.any (isS x) = decide (x ∈ ys)
  | _, _, .nil => by simp
  | _, _, .cons y t h => by
    rw [List.any_cons, any_isS h]
    simp only [isS, List.mem_cons]
    by_cases hx : y = x
    · subst hx; simp
    · have : ¬ x = y := fun e => hx e.symm
      simp [hx, this]
theorem mem_isS {x : Str} {t : Tok} : ∀ {ys : List Str} {vs : List Value}, StrsAre vs ys → ∀ y ∈ vs, ∀ (A : Around) (s : Shared), SeqAt.EqAt A s y (.str x t) (isS x y)
  | _, _, .nil, _, h, _, _ => nomatch h
  | _, _, .cons y u h, v, hv, A, s => by
    rcases List.mem_cons.mp hv with rfl | hv
    · exact SeqAt.EqAt.str_str _ _ _ _
    · exact mem_isS h v hv A s
noncomputable def isN : Value → Bool
  | .none => true
  | _ => false
theorem any_isN : ∀ {ys : List DV} {bs : List Bool} {vs : List Value}, nonesL ys = some bs → VRs c M P s.heap ys vs → vs.any isN = decide (true ∈ bs) ∧ ∀ y ∈ vs, ∀ (A : Around) (s : Shared), SeqAt.EqAt A s y .none (isN y)
  | [], _, _, e, x => by cases e; cases x; exact ⟨by simp, fun _ h => nomatch h⟩
  | d :: r, _, _, e, x => bnd1 e fun b h e => map1 e fun ns e1 z => by
    subst z
    refine exQ3 x ?_; clear x; rintro v r' rfl x2 x3
    have ih := any_isN e1 x3
    have one : isN v = b ∧ ∀ (A : Around) (s : Shared), SeqAt.EqAt A s v .none (isN v) := by
      cases d with
      | none => cases h; cases x2; exact ⟨rfl, eqAt_none_none⟩
      | int i => cases h; obtain ⟨t, rfl⟩ := x2; exact ⟨rfl, fun _ _ => SeqAt.EqAt.int_none _ _⟩
      | _ => exact deadP h
    refine ⟨?_, fun y hy A s => (List.mem_cons.mp hy).elim (fun z => z ▸ one.2 A s) fun hy => ih.2 y hy A s⟩
    rw [List.any_cons, ih.1, one.1]
    cases b <;> simp
noncomputable def fcons (b : Bool) (e : Nat → Bool) (j : Nat) : Bool := @Nat.casesOn (fun _ => Bool) j b e
theorem fcons_all {b : Bool} {e : Nat → Bool} {n : Nat} : (List.range (n + 1)).all (fcons b e) = (b && (List.range n).all e) := by
  rw [List.range_succ_eq_map, List.all_cons, List.all_map]; rfl
theorem strs_eq_all : ∀ {xs ys : List Str} {us vs : List Value}, StrsAre us xs → StrsAre vs ys → ∃ e : Nat → Bool,
    (∀ (j : Nat) (h1 : j < us.length) (h2 : j < vs.length) (A : Around) (s : Shared), SeqAt.EqAt A s us[j] vs[j] (e j)) ∧ ((List.range (min us.length vs.length)).all e && us.length == vs.length) = decide (xs = ys) := by
  intro xs ys us vs h
  induction h generalizing ys vs with
  | nil =>
    intro h'
    refine ⟨fun _ => true, (fun j h1 => absurd h1 (Nat.not_lt_zero _)), ?_⟩
    cases h' <;> simp
  | cons x t h ih =>
    intro h'
    cases h' with
    | nil => exact ⟨fun _ => true, (fun j _ h1 => absurd h1 (Nat.not_lt_zero _)), by simp⟩
    | cons y u h' =>
      rename_i us' xs' vs' ys'
      refine exP2 (ih h') fun e he hd => ⟨fcons (x == y) e, (fun j h1 h2 A s => by
        cases j with
        | zero => exact SeqAt.EqAt.str_str _ _ _ _
        | succ j => exact he j (Nat.lt_of_succ_lt_succ h1) (Nat.lt_of_succ_lt_succ h2) A s), ?_⟩
      rw [List.length_cons, List.length_cons, Nat.succ_min_succ, fcons_all, Bool.and_assoc]
      have e3 : (us'.length + 1 == vs'.length + 1) = (us'.length == vs'.length) := by simp
      rw [e3, hd]
      by_cases hxy : x = y <;> simp [hxy]
theorem reads_ints : ∀ {ns : List Int} {vs : List Value}, IntsAre vs ns → ReadsAll s.heap vs (ns.map .int) []
  | _, _, .nil => .nil
  | _, _, .cons i t h => ReadsAll.cons (as := []) (bs := []) (.int i t) (reads_ints h)
theorem canLay_ints : ∀ ns : List Int, PyData.canLayAll0 (ns.map .int) = true
  | [] => rfl
  | _ :: r => by simp [PyData.canLayAll0, PyData.canLay0, canLay_ints r]
theorem eqv_ints : ∀ as bs : List Int, PyData.eqvAll (as.map .int) (bs.map .int) = decide (as = bs)
  | [], [] => by simp [PyData.eqvAll]
  | [], _ :: _ => by simp [PyData.eqvAll]
  | _ :: _, [] => by simp [PyData.eqvAll]
  | a :: as, b :: bs => by
    simp only [List.map_cons, PyData.eqvAll, PyData.eqv, eqv_ints as bs]
    by_cases h : a = b <;> simp [h]
theorem depth_ints : ∀ as : List Int, PyData.depthAll (as.map .int) ≤ 1
  | [] => by simp [PyData.depthAll]
  | a :: as => by
    have := depth_ints as
    simp only [List.map_cons, PyData.depthAll, PyData.depth]
    lia
theorem ints_eq_sound (S : St c P M σ s.heap) (hu : A.units + 64 < cLine) {x y : DV} {a b : Value} {l l' : List DV} {as bs : List Int} (e1 : items σ x = some l) (e2 : items σ y = some l') (e3 : intsL l = some as) (e4 : intsL l' = some bs)
    (hx : VR c M P s.heap x a) (hy : VR c M P s.heap y b) (q : Q (.bool (decide (as = bs))) s) : wpAny c.M A (compareOp .Eq a b) Q E s := by
  refine byG fun GG kk => ?_
  refine exR3 (lst_of_items S e1 hx) ?_; rintro ax vx nx rfl gx rx
  refine exR3 (lst_of_items S e2 hy) ?_; rintro ay vy ny rfl gy ry
  refine kk ?_
  clear kk GG
  refine SeqAt.compareEq_reads (.list gx rfl rfl (reads_ints (ints_are e3 rx))) (.list gy rfl rfl (reads_ints (ints_are e4 ry))) (by simp [PyData.canLay0, canLay_ints]) (by simp [PyData.canLay0, canLay_ints]) ?_ ?_
  · have := depth_ints as
    simp only [PyData.depth]
    lia
  · rw [PyData.eqv, eqv_ints]; exact q
theorem ints_ne_sound (S : St c P M σ s.heap) (hu : A.units + 64 < cLine) {x y : DV} {a b : Value} {l l' : List DV} {as bs : List Int} (e1 : items σ x = some l) (e2 : items σ y = some l') (e3 : intsL l = some as) (e4 : intsL l' = some bs)
    (hx : VR c M P s.heap x a) (hy : VR c M P s.heap y b) (q : Q (.bool (!decide (as = bs))) s) : wpAny c.M A (compareOp .NotEq a b) Q E s := by
  refine byG fun GG kk => ?_
  refine exR3 (lst_of_items S e1 hx) ?_; rintro ax vx nx rfl gx rx
  refine exR3 (lst_of_items S e2 hy) ?_; rintro ay vy ny rfl gy ry
  refine kk ?_
  clear kk GG
  refine SeqAt.compareNe_reads (.list gx rfl rfl (reads_ints (ints_are e3 rx))) (.list gy rfl rfl (reads_ints (ints_are e4 ry))) (by simp [PyData.canLay0, canLay_ints]) (by simp [PyData.canLay0, canLay_ints]) ?_ ?_
  · have := depth_ints as
    simp only [PyData.depth]
    lia
  · rw [PyData.eqv, eqv_ints]; exact q
theorem eqV_sound (S : St c P M σ s.heap) (hu : A.units + 64 < cLine) {x y : DV} {a b : Value} {r : Bool} (e : eqV σ x y = some r) (hx : VR c M P s.heap x a) (hy : VR c M P s.heap y b) (q : Q (.bool r) s) :
    wpAny c.M A (compareOp .Eq a b) Q E s := by
  refine elimO e ?_ ?_ <;> clear e
  · intro _ e
    refine elimO e ?_ ?_ <;> clear e
    · intro _ e
      refine condO e ?_ ?_ <;> clear e
      · intro h e
        refine condO e ?_ (fun _ => deadP); clear e; intro h' e
        cases isNo_eq h; cases isNo_eq h'; cases e; cases hx; cases hy
        exact EqNone.eq_none_none q
      · intro _ e
        refine bnd1 e ?_; clear e; rintro l h1 e
        refine bnd1 e ?_; clear e; rintro l' h2 e
        refine bnd1 e ?_; clear e; rintro as h3 e
        refine bnd1 e ?_; clear e; rintro bs h4 e
        cases e
        exact ints_eq_sound S hu h1 h2 h3 h4 hx hy q
    · intro y h e
      refine bnd1 e ?_; clear e; rintro x h' e
      refine bnd1 e ?_; clear e; rintro as h1 e
      refine bnd1 e ?_; clear e; rintro bs h2 e
      cases tupD_eq h; cases tupD_eq h'; cases e
      refine byG fun GG kk => ?_
      obtain ⟨ax, vx, nx, rfl, _, _, gx, rx⟩ := hx
      obtain ⟨ay, vy, ny, rfl, _, _, gy, ry⟩ := hy
      refine kk ?_
      clear kk GG
      refine exP2 (strs_eq_all (strs_are h1 rx) (strs_are h2 ry)) ?_; rintro f f1 f2
      exact SeqAt.eq_tupleAt (e := f) (isTuple gx) (isTuple gy) (by lia) (fun j h1 h2 => f1 j h1 h2 A.in1 s) (f2.symm ▸ q)
  · intro y h e
    cases strD_eq h
    obtain ⟨t, rfl⟩ := hy
    refine elimO e ?_ ?_ <;> clear e
    · intro _ e
      cases x with
      | none => cases e; cases hx; exact EqNone.eq_none_str q
      | int i => cases e; obtain ⟨u, rfl⟩ := hx; exact EqMixed.eq_int_str q
      | _ => exact deadP e
    · intro x h e
      cases strD_eq h; cases e
      obtain ⟨u, rfl⟩ := hx
      exact PySem.P.eq_str (by rw [str_toList_eq]; exact q)
theorem neV_sound (S : St c P M σ s.heap) (hu : A.units + 64 < cLine) {x y : DV} {a b : Value} {r : Bool} (e : neV σ x y = some r) (hx : VR c M P s.heap x a) (hy : VR c M P s.heap y b) (q : Q (.bool r) s) :
    wpAny c.M A (compareOp .NotEq a b) Q E s := by
  refine elimO e ?_ ?_ <;> clear e
  · intro _ e
    refine condO e ?_ ?_ <;> clear e
    · intro h e
      refine condO e ?_ (fun _ => deadP); clear e; intro h' e
      cases isNo_eq h; cases isNo_eq h'; cases e; cases hx; cases hy
      exact EqNone.ne_none_none q
    · intro _ e
      refine bnd1 e ?_; clear e; rintro l h1 e
      refine bnd1 e ?_; clear e; rintro l' h2 e
      refine bnd1 e ?_; clear e; rintro as h3 e
      refine bnd1 e ?_; clear e; rintro bs h4 e
      cases e
      exact ints_ne_sound S hu h1 h2 h3 h4 hx hy q
  · intro y h e
    refine bnd1 e ?_; clear e; rintro x h' e
    cases strD_eq h; cases strD_eq h'; cases e
    obtain ⟨t, rfl⟩ := hy
    obtain ⟨u, rfl⟩ := hx
    exact PySem.P.ne_str (by rw [str_toList_ne]; exact q)
theorem dict_of (S : St c P M σ s.heap) {d : DV} {v : Value} {ks : List Str} {l : List DV} (e : dictOf' σ d = some (ks, l)) (x : VR c M P s.heap d v) :
    ∃ a vs, v = .ref a ∧ a ≠ sysModules ∧ s.heap.DictOf c.kd a (ks.zip vs) ∧ ks.length = vs.length ∧ VRs c M P s.heap l vs := by
  refine elimO e ?_ ?_ <;> clear e
  · intro _ e
    refine bnd1 e ?_; clear e; intro i h e
    cases locD_eq h
    refine byG fun GG kk => ?_
    obtain ⟨a, e1, e2⟩ := x
    obtain ⟨vs, e3, e4, e5⟩ := S.get e2 (dictAt_eq e)
    refine kk ?_
    clear kk GG
    exact ⟨a, vs, e1, (S.new a (List.mem_of_getElem? e2)).2, e3, e4, e5⟩
  · intro p h e
    cases dctD_eq h; cases e
    refine byG fun GG kk => ?_
    obtain ⟨a, vs, e1, _, _, e4, e2, e3, e5⟩ := x
    refine kk ?_
    clear kk GG
    exact ⟨a, vs, e1, e4, e2, e3, e5⟩
noncomputable def AtOk (c : Cx) (M P : List Addr) (h : Heap) (o : Option DV) (w : Option Value) : Prop := o.elim (w = none) fun d => ∃ v, w = some v ∧ VR c M P h d v
theorem valueAt_cons {k k' : Str} {v : Value} {r : List (Str × Value)} : valueAt ((k', v) :: r) k = if k' = k then some v else valueAt r k := by
  by_cases h : k' = k
  · rw [if_pos h]; simp [valueAt, h]
  · rw [if_neg h]; simp [valueAt, h]
theorem valueAt_zip (k : Str) : ∀ {ks : List Str} {vs : List Value} {ds : List DV}, ks.length = vs.length → VRs c M P s.heap ds vs →
    AtOk c M P s.heap (lookD k ks ds) (valueAt (ks.zip vs) k) ∧ (valueAt (ks.zip vs) k).isSome = decide (k ∈ ks)
  | [], _, _, _, _ => ⟨rfl, by simp [valueAt]⟩
  | k' :: ks, [], _, h, _ => nomatch h
  | k' :: ks, v :: vs, [], h, x => nomatch x
  | k' :: ks, v :: vs, d :: ds, h, x => by
    refine exQ3 x ?_; clear x; rintro v' r' e x2 x3
    cases e
    have ih := valueAt_zip k (ks := ks) (Nat.succ.inj h) x3
    rw [List.zip_cons_cons, valueAt_cons]
    unfold lookD
    by_cases hk : k' = k
    · rw [if_pos hk, if_pos hk]; exact ⟨⟨_, rfl, x2⟩, by simp [hk]⟩
    · rw [if_neg hk, if_neg hk]
      refine ⟨ih.1, ih.2.trans ?_⟩
      have : ¬ k = k' := fun z => hk z.symm
      simp [this]
theorem is_str (k : Str) (t : Tok) : c.kd.is k (.str k t) = true := by
  show Value.isStrOf k (.str k t) = true
  simp [Value.isStrOf]
theorem dict_item_sound (S : St c P M σ s.heap) {d r : DV} {v : Value} {k : Str} {t : Tok} {ks : List Str} {l : List DV} (e : dictOf' σ d = some (ks, l)) (e2 : lookD k ks l = some r) (x : VR c M P s.heap d v) (q : Pz c M P r s Q) :
    wpAny c.M A (getItem v (.str k t)) Q E s := by
  refine byG fun GG kk => ?_
  refine exQ5 (dict_of S e x) ?_; rintro a vs rfl _ h1 h2 h3
  refine kk ?_
  clear kk GG
  have hv := (valueAt_zip k h2 h3).1
  rw [e2] at hv
  refine exP2 hv ?_; clear hv; rintro u hu hr
  exact wpAny_getItem_of (knd := c.kd) (is_str k t) h1.mapOf hu (q _ _ _ Keep.refl hr)
theorem inV_sound (S : St c P M σ s.heap) {x y : DV} {a b : Value} {r : Bool} (e : inV σ x y = some r) (hx : VR c M P s.heap x a) (hy : VR c M P s.heap y b) :
    (Pz c M P (.bool r) s Q → wpAny c.M A (compareOp .In a b) Q E s) ∧ (Pz c M P (.bool (!r)) s Q → wpAny c.M A (compareOp .NotIn a b) Q E s) := by
  refine elimO e ?_ ?_ <;> clear e
  · intro _ e
    refine condO e ?_ (fun _ => deadP); clear e; intro h e
    refine bnd1 e ?_; clear e; intro l h' e
    refine map1 e ?_; clear e; rintro bs h1 rfl
    cases isNo_eq h; cases lstD_eq h'; cases hx
    refine byG fun GG kk => ?_
    obtain ⟨ay, vy, ny, rfl, _, _, gy, ry⟩ := hy
    refine kk ?_
    clear kk GG
    refine andP2 (any_isN h1 ry) ?_; intro g1 g2
    rw [Array.any_toList] at g1
    refine ⟨fun q => SeqAt.in_listAt isN (isList gy) (fun y hy => g2 y (Array.mem_toList_iff.mpr hy) _ _) ?_, fun q => SeqAt.notIn_listAt isN (isList gy) (fun y hy => g2 y (Array.mem_toList_iff.mpr hy) _ _) ?_⟩
    · exact g1.symm ▸ q.bool'
    · exact g1.symm ▸ q.bool'
  · intro x h e
    cases strD_eq h
    obtain ⟨t, rfl⟩ := hx
    refine elimO e ?_ ?_ <;> clear e
    · intro _ e
      refine elimO e ?_ ?_ <;> clear e
      · intro _ e
        refine map1 e ?_; clear e; rintro ⟨ks, l⟩ h1 rfl
        refine exQ5 (dict_of S h1 hy) ?_; rintro a' vs rfl hs g1 g2 g3
        have hv := fun k => (valueAt_zip k g2 g3).2
        have hs' : (a' == sysModules) = false := by simpa using hs
        exact ⟨fun q => wpAny_in_of (knd := c.kd) (is_str _ t) hs' g1.mapOf ((hv x).symm ▸ q.bool), fun q => wpAny_notIn_of (knd := c.kd) (is_str _ t) hs' g1.mapOf ((hv x).symm ▸ q.bool)⟩
      · intro l h' e
        refine map1 e ?_; clear e; rintro ss h1 rfl
        cases lstD_eq h'
        refine byG fun GG kk => ?_
        obtain ⟨ay, vy, ny, rfl, _, _, gy, ry⟩ := hy
        refine kk ?_
        clear kk GG
        have hs := strs_are h1 ry
        have ha := any_isS (x := x) hs
        rw [Array.any_toList] at ha
        have hm := fun y hy => mem_isS (x := x) (t := t) hs y (Array.mem_toList_iff.mpr hy)
        exact ⟨fun q => SeqAt.in_listAt (isS _) (isList gy) (fun y hy => hm y hy _ _) (ha.symm ▸ q.bool'), fun q => SeqAt.notIn_listAt (isS _) (isList gy) (fun y hy => hm y hy _ _) (ha.symm ▸ q.bool')⟩
    · intro l h' e
      refine map1 e ?_; clear e; rintro ss h1 rfl
      cases tupD_eq h'
      refine byG fun GG kk => ?_
      obtain ⟨ay, vy, ny, rfl, _, _, gy, ry⟩ := hy
      refine kk ?_
      clear kk GG
      have hs := strs_are h1 ry
      have ha := any_isS (x := x) hs
      rw [Array.any_toList] at ha
      have hm := fun y hy => mem_isS (x := x) (t := t) hs y (Array.mem_toList_iff.mpr hy)
      exact ⟨fun q => SeqAt.in_tupleAt (isS _) (isTuple gy) (fun y hy => hm y hy _ _) (ha.symm ▸ q.bool'), fun q => SeqAt.notIn_tupleAt (isS _) (isTuple gy) (fun y hy => hm y hy _ _) (ha.symm ▸ q.bool')⟩
theorem intC_P {X : Prop} {f : Int → Int → Bool} {x y : DV} {a b : Value} {r : Bool} (e : intC f x y = some r) (hx : VR c M P s.heap x a) (hy : VR c M P s.heap y b) (k : ∀ i j t u, a = .int i t → b = .int j u → f i j = r → X) : X :=
  bnd1 e fun i h1 e => bnd1 e fun j h2 e => by
    cases intD_eq h1; cases intD_eq h2
    obtain ⟨t, rfl⟩ := hx; obtain ⟨u, rfl⟩ := hy
    exact k _ _ _ _ rfl rfl (Option.some.inj e)
theorem bne_dec {x y : Int} : (x != y) = decide (x ≠ y) := by by_cases h : x = y <;> simp [h]
theorem cmpV_sound (S : St c P M σ s.heap) (hu : A.units + 64 < cLine) {op : CmpOp} {x y : DV} {a b : Value} {r : Bool} (e : cmpV σ op x y = some r) (hx : VR c M P s.heap x a) (hy : VR c M P s.heap y b)
    (q : Pz c M P (.bool r) s Q) : wpAny c.M A (compareOp op a b) Q E s := by
  cases op with
  | Eq =>
    refine elimO e (fun _ e => eqV_sound S hu e hx hy q.bool') fun i h1 e => elimO e (fun _ e => eqV_sound S hu e hx hy q.bool') fun j h2 e => ?_
    exact intC_P (f := fun a b => decide (a = b)) (by rw [intC, h1, h2]; exact e) hx hy fun i j t u h1 h2 h3 => by subst h1 h2 h3; exact eq_int (by rw [beq_dec]; exact q.bool')
  | NotEq =>
    refine elimO e (fun _ e => neV_sound S hu e hx hy q.bool') fun i h1 e => elimO e (fun _ e => neV_sound S hu e hx hy q.bool') fun j h2 e => ?_
    exact intC_P (f := fun a b => decide (a ≠ b)) (by rw [intC, h1, h2]; exact e) hx hy fun i j t u h1 h2 h3 => by subst h1 h2 h3; exact ne_int (by rw [bne_dec]; exact q.bool')
  | Lt => exact intC_P e hx hy fun i j t u h1 h2 h3 => by subst h1 h2 h3; exact lt_int q.bool'
  | LtE => exact intC_P e hx hy fun i j t u h1 h2 h3 => by subst h1 h2 h3; exact le_int q.bool'
  | Gt => exact intC_P e hx hy fun i j t u h1 h2 h3 => by subst h1 h2 h3; exact gt_int q.bool'
  | GtE => exact intC_P e hx hy fun i j t u h1 h2 h3 => by subst h1 h2 h3; exact ge_int q.bool'
  | Is =>
    refine condO e ?_ (fun _ => deadP); clear e; intro h e
    cases isNo_eq h; cases hy
    cases x with
    | none => cases e; cases hx; exact is_none_none q.bool'
    | int i => cases e; obtain ⟨t, rfl⟩ := hx; exact is_int_none q.bool'
    | tup l => cases e; obtain ⟨a', _, _, rfl, _⟩ := hx; exact wpAny_is_plain rfl q.bool'
    | bytes b => cases e; obtain ⟨t, rfl⟩ := hx; exact wpAny_is_plain rfl q.bool'
    | con u =>
      refine map1 e ?_; clear e; rintro a' h' rfl
      cases refU_eq h'; cases hx.1
      exact wpAny_is_plain rfl q.bool'
    | _ => exact deadP e
  | IsNot =>
    refine condO e ?_ (fun _ => deadP); clear e; intro h e
    cases isNo_eq h; cases hy
    cases x with
    | none => cases e; cases hx; exact isnot_none_none q.bool'
    | int i => cases e; obtain ⟨t, rfl⟩ := hx; exact isnot_int_none q.bool'
    | tup l => cases e; obtain ⟨a', _, _, rfl, _⟩ := hx; exact wpAny_isNot_plain rfl q.bool'
    | _ => exact deadP e
  | In => exact (inV_sound S e hx hy).1 q
  | NotIn => exact map1 e fun r' h z => by subst z; exact (inV_sound S h hx hy).2 q
end
end
section
section
variable {c : Cx} {A : Around} {P M : List Addr} {σ : Sg} {s : Shared} {E : Value → Shared → Prop} {Q : Value → Shared → Prop}
theorem seqIndex_nn {k : Int} {n : Nat} (h0 : 0 ≤ k) (h : k.toNat < n) : seqIndex? k n = some k.toNat := by
  unfold seqIndex?
  have h1 : ¬ k < 0 := by lia
  simp only [h1, if_false]
  have : 0 ≤ k ∧ k < n := by lia
  first
    | simp [this]
    | (split <;> first | rfl | lia)
theorem nth_lt {i : Int} (h : i < (big : Int)) : i < 2 ^ 62 := Int.lt_trans h (by decide)
theorem lt62 {i : Int} (h : i < 2 ^ 62) : i < 2 ^ 63 := Int.lt_trans h (by decide)
theorem iteP {β : Type} {X : Prop} {p : β → Prop} {q : Prop} [Decidable q] {x y : β} (e : p (if q then x else y)) (k0 : q → p x → X) (k1 : ¬ q → p y → X) : X := if h : q then k0 h (by rwa [if_pos h] at e) else k1 h (by rwa [if_neg h] at e)
theorem nth_sound {l : List DV} {vs : Array Value} {i : Int} {d : DV} {u : Tok} (e : nth l i = some d) (x : VRs c M P s.heap l vs.toList) :
    ∃ v, VR c M P s.heap d v ∧ ((0 ≤ i ∧ i < 2 ^ 62 ∧ vs[i.toNat]? = some v) ∨ (i < 0 ∧ -(vs.size : Int) ≤ i ∧ -(2 ^ 62) ≤ i ∧ vs[(i + vs.size).toNat]? = some v)) := by
  have hl : l.length = vs.size := x.length
  have hb : (big : Int) = 100000 := rfl
  unfold nth at e
  refine iteP (p := fun o => o = some d) e ?_ ?_ <;> clear e <;> intro h0 e
  · refine ifP e ?_; clear e; intro h1 e
    refine exP2 (x.get e) ?_; intro v hv hr
    exact ⟨v, hr, .inl ⟨h0, nth_lt h1, by rwa [Array.getElem?_toList] at hv⟩⟩
  · refine ifP e ?_; clear e; intro h1 e
    refine exP2 (x.get e) ?_; intro v hv hr
    rw [hl, Array.getElem?_toList] at hv
    exact ⟨v, hr, .inr ⟨Int.not_le.mp h0, hl ▸ h1.1, Int.le_trans (by decide) h1.2, hv⟩⟩
theorem list_item_sound {a : Addr} {vs : Array Value} {n : Nat} {l : List DV} {i : Int} {d : DV} {u : Tok} (g : s.heap.get? a = some (lstO vs n)) (x : VRs c M P s.heap l vs.toList) (e : nth l i = some d) (q : Pz c M P d s Q) :
    wpAny c.M A (getItem (.ref a) (.int i u)) Q E s := by
  refine exP2 (nth_sound (u := u) e x) ?_; rintro v hr (⟨h0, h1, hv⟩ | ⟨h0, h1, h2, hv⟩)
  · exact wpAny_getItem_list (isList g) h0 (by lia) hv (q _ _ s.toks Keep.refl hr)
  · exact wpAny_getItem_list_neg (isList g) h0 h1 (by lia) hv (q _ _ s.toks Keep.refl hr)
theorem tup_item_sound {a : Addr} {vs : Array Value} {n : Nat} {l : List DV} {i : Int} {d : DV} {u : Tok} (h0 : 0 ≤ i) (g : s.heap.get? a = some (tupO vs n)) (x : VRs c M P s.heap l vs.toList) (e : nth l i = some d) (q : Pz c M P d s Q) :
    wpAny c.M A (getItem (.ref a) (.int i u)) Q E s := by
  refine exP2 (nth_sound (u := u) e x) ?_; rintro v hr (⟨h0, h1, hv⟩ | ⟨h0', _⟩)
  · have hlt : i.toNat < vs.size := (Array.getElem?_eq_some_iff.mp hv).1
    exact PySem.P.getItem_tuple g (by lia) (by lia) (seqIndex_nn h0 hlt) hv (q _ _ s.toks Keep.refl hr)
  · lia
theorem byte_item_sound {b : Array UInt8} {i : Int} {u t : Tok} {y : UInt8} (h0 : 0 ≤ i) (h1 : b.size ≤ big) (hy : b[i.toNat]? = some y) (q : Pz c M P (.int y.toNat) s Q) : wpAny c.M A (getItem (.bytes b u) (.int i t)) Q E s := by
  have hlt : i.toNat < b.size := (Array.getElem?_eq_some_iff.mp hy).1
  have hb : big = 100000 := rfl
  have g := getItem_bytes (prog := c.prog) (w := c.w) (A := A) (E := E) (s := s) (l := b.toList) (t := u) (u := t) (i := i) (Q := Q) (by simp; lia) h0 (by simp; lia) (by
    have : b.toList.getD i.toNat 0 = y := by
      rw [List.getD_eq_getElem?_getD, Array.getElem?_toList, hy]; rfl
    rw [this]; exact q.int)
  rw [Array.toArray_toList] at g
  exact g
theorem subV_sound (S : St c P M σ s.heap) {x i d : DV} {a b : Value} (e : subV σ x i = some d) (hx : VR c M P s.heap x a) (hi : VR c M P s.heap i b) (q : Pz c M P d s Q) :
    ∃ T id, s.TypeIs a T ∧ typeLookup (.type T) "__getitem__" = pure (some (.builtin id)) ∧ wpAny c.M A (getItem a b) Q E s := by
  refine elimO e ?_ ?_ <;> clear e
  · intro _ e
    refine bnd1 e ?_; clear e; intro k hk e
    refine bndP e ?_; clear e; intro ks l h1 e
    cases strD_eq hk
    obtain ⟨t, rfl⟩ := hi
    have g := dict_item_sound (A := A) (E := E) (t := t) S h1 e hx q
    refine exQ4 (dict_of S h1 hx) ?_; rintro ax vs rfl _ h2 _
    exact ⟨"dict", _, h2.typeIs, F.slot_dict_getitem.lookup, g⟩
  · intro i h e
    cases intD_eq h
    obtain ⟨t, rfl⟩ := hi
    refine elimO e ?_ ?_ <;> clear e
    · intro _ e
      refine elimO e ?_ ?_ <;> clear e
      · intro _ e
        refine bnd1 e ?_; clear e; intro l h1 e
        refine exR3 (lst_of_items S h1 hx) ?_; rintro ax vx nx rfl gx rx
        exact ⟨"list", _, ⟨_, gx, rfl⟩, slot_list_getitem.lookup, list_item_sound gx rx e q⟩
      · intro b h' e
        refine ifP e ?_; clear e; intro h e
        refine map1 e ?_; clear e; rintro y hy rfl
        cases bytD_eq h'
        obtain ⟨u, rfl⟩ := hx
        have hlt : i.toNat < b.size := (Array.getElem?_eq_some_iff.mp hy).1
        exact ⟨"bytes", _, typeIs_bytes _ _ _, FB.slot_bytes_getitem.lookup, byte_item_sound h.1 h.2 hy q⟩
    · intro l h' e
      refine ifP e ?_; clear e; intro h0 e
      cases tupD_eq h'
      obtain ⟨ax, vx, nx, rfl, _, _, gx, rx⟩ := hx
      exact ⟨"tuple", _, ⟨_, gx, rfl⟩, F.slot_tuple_getitem.lookup, tup_item_sound h0 gx rx e q⟩
theorem tail_sound {value slice : Expr} {a b : Value} {T id : String} (hT : s.TypeIs a T) (hl : typeLookup (.type T) "__getitem__" = pure (some (.builtin id))) (h : wpAny c.M A (getItem a b) Q E s) :
    wpAny c.M A (subscriptTail value slice a b) Q E s := by
  have e : ∃ ops, subscripted slice false a b = operate ops (getItem a b) := by
    cases slice with
    | Slice _ _ q _ => cases q <;> exact ⟨_, rfl⟩
    | _ => exact ⟨_, rfl⟩
  refine exP1 e ?_; clear e; rintro ops e
  exact tail_any hT hl h e
theorem VRs.pick : ∀ {l : List DV} {vs : List Value} (js : List Nat), VRs c M P s.heap l vs → VRs c M P s.heap (js.filterMap (l[·]?)) (js.filterMap (vs[·]?))
  | _, _, [], _ => VRs.nil
  | l, vs, j :: js, x => by
    have ih := VRs.pick js x
    have hl := x.length
    by_cases h : j < l.length
    · refine exP2 (x.get (List.getElem?_eq_getElem h)) ?_; rintro v hv hr
      rw [List.filterMap_cons, List.filterMap_cons, List.getElem?_eq_getElem h, hv]
      exact VRs.cons hr ih
    · rw [List.filterMap_cons, List.filterMap_cons, List.getElem?_eq_none (by lia), List.getElem?_eq_none (by lia)]
      exact ih
theorem part_of {d : DV} {v : Value} {k : Option Int} (e : partV d = some k) (x : VR c M P s.heap d v) : IsPart v k := by
  refine elimO e ?_ ?_ <;> clear e
  · intro _ e
    refine condO e ?_ (fun _ => deadP); clear e; intro h e
    cases isNo_eq h; cases e; cases x; exact .none
  · intro i h e
    cases intD_eq h; cases e; obtain ⟨t, rfl⟩ := x; exact .int _ _
theorem list_slice_sound (S : St c P M σ s.heap) {a sl : Addr} {vs : Array Value} {n : Nat} {l : List DV} {vl vu vt : Value} {lo hi st : Option Int} (g : s.heap.get? a = some (lstO vs n)) (x : VRs c M P s.heap l vs.toList)
    (hsl : s.heap.IsSliceOf sl vl vu vt) (h1 : IsPart vl lo) (h2 : IsPart vu hi) (h3 : IsPart vt st) (h0 : st ≠ some 0) (hz : l.length ≤ 2 ^ 20) (q : Pz c M P (.lst (slPick l lo hi st)) s Q) :
    wpAny c.M A (getItem (.ref a) (.ref sl)) Q E s := by
  have hl : l.length = vs.size := x.length
  refine wpAny_getItem_list_slice (isList g) hsl h1 h2 h3 h0 ?_ (by rw [sizeLine_eq]; lia)
  have y := VRs.pick (sliceRange (sliceBounds lo hi st l.length).1 (sliceBounds lo hi st l.length).2.1 (sliceBounds lo hi st l.length).2.2) x
  have := q.lst (n := 0) S y s.toks
  have e : slicePick vs lo hi st = ((sliceRange (sliceBounds lo hi st l.length).1 (sliceBounds lo hi st l.length).2.1 (sliceBounds lo hi st l.length).2.2).filterMap (vs.toList[·]?)).toArray := by
    unfold slicePick
    rw [hl]
    congr 2
    funext j
    rw [Array.getElem?_toList]
  rw [e]
  exact this
end
end
section
namespace BA
theorem slot_getitem : Slot "bytearray" "__getitem__" "bytearray.__getitem__" :=
  .of (owner := "bytearray") (n := "__getitem__") (by rw [typeLookup_type, builtinLookup_eq_fast]; kernel_rfl) (by decide +kernel) (by decide +kernel) (by decide +kernel)
    (by first | exact .inl (by decide +kernel) | exact .inr (by decide +kernel)) (by rw [isSubtype_type]; kernel_rfl)
theorem slot_setitem : Slot "bytearray" "__setitem__" "bytearray.__setitem__" :=
  .of (owner := "bytearray") (n := "__setitem__") (by rw [typeLookup_type, builtinLookup_eq_fast]; kernel_rfl) (by decide +kernel) (by decide +kernel) (by decide +kernel)
    (by first | exact .inl (by decide +kernel) | exact .inr (by decide +kernel)) (by rw [isSubtype_type]; kernel_rfl)
theorem slot_len : Slot "bytearray" "__len__" "bytearray.__len__" :=
  .of (owner := "bytearray") (n := "__len__") (by rw [typeLookup_type, builtinLookup_eq_fast]; kernel_rfl) (by decide +kernel) (by decide +kernel) (by decide +kernel)
    (by first | exact .inl (by decide +kernel) | exact .inr (by decide +kernel)) (by rw [isSubtype_type]; kernel_rfl)
theorem slot_iter : Slot "bytearray" "__iter__" "bytearray.__iter__" :=
  .of (owner := "bytearray") (n := "__iter__") (by rw [typeLookup_type, builtinLookup_eq_fast]; kernel_rfl) (by decide +kernel) (by decide +kernel) (by decide +kernel)
    (by first | exact .inl (by decide +kernel) | exact .inr (by decide +kernel)) (by rw [isSubtype_type]; kernel_rfl)
theorem slot_init : Slot "bytearray" "__init__" "bytearray.__init__" :=
  .of (owner := "bytearray") (n := "__init__") (by rw [typeLookup_type, builtinLookup_eq_fast]; kernel_rfl) (by decide +kernel) (by decide +kernel) (by decide +kernel)
    (by first | exact .inl (by decide +kernel) | exact .inr (by decide +kernel)) (by rw [isSubtype_type]; kernel_rfl)
theorem slot_next : Slot "bytearray_iterator" "__next__" "bytearray_iterator.__next__" :=
  .of (owner := "bytearray_iterator") (n := "__next__") (by rw [typeLookup_type, builtinLookup_eq_fast]; kernel_rfl) (by decide +kernel) (by decide +kernel) (by decide +kernel)
    (by first | exact .inl (by decide +kernel) | exact .inr (by decide +kernel)) (by rw [isSubtype_type]; kernel_rfl)
theorem slot_self : Slot "bytearray_iterator" "__iter__" "bytearray_iterator.__iter__" :=
  .of (owner := "bytearray_iterator") (n := "__iter__") (by rw [typeLookup_type, builtinLookup_eq_fast]; kernel_rfl) (by decide +kernel) (by decide +kernel) (by decide +kernel)
    (by first | exact .inl (by decide +kernel) | exact .inr (by decide +kernel)) (by rw [isSubtype_type]; kernel_rfl)
theorem entry_getitem : entryFor table "bytearray.__getitem__" = some Builtin.«bytearray.__getitem__» := entryFor_of_tree (by kernel_rfl)
theorem entry_setitem : entryFor table "bytearray.__setitem__" = some Builtin.«bytearray.__setitem__» := entryFor_of_tree (by kernel_rfl)
theorem entry_len : entryFor table "bytearray.__len__" = some Builtin.«bytearray.__len__» := entryFor_of_tree (by kernel_rfl)
theorem entry_iter : entryFor table "bytearray.__iter__" = some Builtin.«bytearray.__iter__» := entryFor_of_tree (by kernel_rfl)
theorem entry_init : entryFor table "bytearray.__init__" = some Builtin.«bytearray.__init__» := entryFor_of_tree (by kernel_rfl)
theorem entry_next : entryFor table "bytearray_iterator.__next__" = some Builtin.«bytearray_iterator.__next__» := entryFor_of_tree (by kernel_rfl)
theorem entry_self : entryFor table "bytearray_iterator.__iter__" = some Builtin.«dict_keyiterator.__iter__» := entryFor_alias (id' := "dict_keyiterator.__iter__") (by kernel_rfl) rfl (by decide +kernel) (by kernel_rfl)
theorem entry_new : entryFor table "bytearray.__new__" = some Builtin.«list.__new__» := entryFor_alias (id' := "list.__new__") (by kernel_rfl) rfl (by decide +kernel) (by kernel_rfl)
theorem args_getitem (a b : Value) : argsOk "bytearray.__getitem__" ⟨[a, b], []⟩ := by unfold argsOk; kernel_rfl
theorem args_setitem (a b d : Value) : argsOk "bytearray.__setitem__" ⟨[a, b, d], []⟩ := by unfold argsOk; kernel_rfl
theorem args_len (a : Value) : argsOk "bytearray.__len__" ⟨[a], []⟩ := by unfold argsOk; kernel_rfl
theorem args_iter (a : Value) : argsOk "bytearray.__iter__" ⟨[a], []⟩ := by unfold argsOk; kernel_rfl
theorem args_init (a b : Value) : argsOk "bytearray.__init__" ⟨[a, b], []⟩ := by unfold argsOk; kernel_rfl
theorem args_next (a : Value) : argsOk "bytearray_iterator.__next__" ⟨[a], []⟩ := by unfold argsOk; kernel_rfl
theorem args_self (a : Value) : argsOk "bytearray_iterator.__iter__" ⟨[a], []⟩ := by unfold argsOk; kernel_rfl
theorem mro : mroOf (.type "bytearray") = pure [.type "bytearray", .type "object"] := by rw [mroOf_type]; kernel_rfl
theorem lookup_new : typeLookup (.type "bytearray") "__new__" = pure (some (.builtin "bytearray.__new__")) := by rw [typeLookup_type, builtinLookup_eq_fast]; kernel_rfl
theorem sub_self : isSubtype (.type "bytearray") (.type "bytearray") = pure true := PySem.F.isi_self_bytearray
theorem called : TypeCalled "bytearray" "bytearray.__new__" "bytearray.__init__" :=
  ⟨by decide +kernel, by decide +kernel, ⟨_, _, mro⟩, madeBy_type mro lookup_new (by decide +kernel), by decide +kernel, sub_self, slot_init⟩
theorem typeCall (a : Value) : checkTypeCall "bytearray" ⟨[a], []⟩ = pure () := by kernel_rfl
theorem newCall (a : Value) : checkBuiltinCall "bytearray.__new__" ⟨[.type "bytearray", a], []⟩ = pure () := by kernel_rfl
theorem plain_new : plainId "bytearray.__new__" = true := by decide +kernel
theorem noBytes : typeLookup (.type "bytearray") "__bytes__" = pure none := by rw [typeLookup_type, builtinLookup_eq_fast]; kernel_rfl
theorem noIndex : typeLookup (.type "bytearray") "__index__" = pure none := by rw [typeLookup_type, builtinLookup_eq_fast]; kernel_rfl
theorem buffer : typeLookup (.type "bytearray") "__buffer__" = pure (some (.builtin "bytearray.__buffer__")) := by rw [typeLookup_type, builtinLookup_eq_fast]; kernel_rfl
theorem release : typeLookup (.type "bytearray") "__release_buffer__" = pure (some (.builtin "bytearray.__release_buffer__")) := by rw [typeLookup_type, builtinLookup_eq_fast]; kernel_rfl
theorem bytes_buffer : typeLookup (.type "bytes") "__buffer__" = pure (some (.builtin "bytes.__buffer__")) := PySem.W.KBy.look_buffer
theorem bytes_release : typeLookup (.type "bytes") "__release_buffer__" = pure none := PySem.W.KBy.look_release
theorem bytes_index : typeLookup (.type "bytes") "__index__" = pure none := by rw [typeLookup_type, builtinLookup_eq_fast]; kernel_rfl
theorem bytes_int : typeLookup (.type "bytes") "__int__" = pure none := by rw [typeLookup_type, builtinLookup_eq_fast]; kernel_rfl
theorem bytes_float : typeLookup (.type "bytes") "__float__" = pure none := by rw [typeLookup_type, builtinLookup_eq_fast]; kernel_rfl
theorem bytes_bytes : typeLookup (.type "bytes") "__bytes__" = pure (some (.builtin "bytes.__bytes__")) := by rw [typeLookup_type, builtinLookup_eq_fast]; kernel_rfl
theorem sub_bytes_ba : isSubtype (.type "bytes") (.type "bytearray") = pure false := PySem.F.sub_bytes_bytearray
theorem sub_bytes_complex : isSubtype (.type "bytes") (.type "complex") = pure false := PySem.F.sub_bytes_complex
theorem bind (v : Value) : Builtin.Bytes.bindOptional "bytearray.__init__" "bytearray" ["source", "encoding", "errors"] [v] [] = pure [some v, none, none] := by kernel_rfl
end BA
end
section
open Builtin
section
variable {c : Cx} {A : Around} {P M : List Addr} {σ : Sg} {s : Shared} {E : Value → Shared → Prop} {Q : Value → Shared → Prop}
theorem ba_type {a : Addr} {b : Array UInt8} (g : s.heap.get? a = some (baO b)) : s.TypeIs (.ref a) "bytearray" := ⟨_, g, rfl⟩
theorem ba_payload {a : Addr} {b : Array UInt8} {Q : Array UInt8 → Shared → Prop} {E : Value → Shared → Prop} (g : s.heap.get? a = some (baO b)) (q : Q b s) : wpAny c.M A (Bytes.payload (.ref a)) Q E s := by
  unfold Bytes.payload Bytes.payload?
  exact wpAny_bind (wpAny_bind (wpAny_load g (wpAny_pure (wpAny_pure q))))
theorem meets_ba_len (a : Addr) (b : Array UInt8) : Meets (Builtin.«bytearray.__len__» ⟨[.ref a], []⟩) (fun _ R s => s.heap.get? a = some (baO b) ∧ R (.ok (.ret (.int b.size s.toks))) { s with toks := s.toks + 1 }) := by
  refine .of_wp fun prog w A R s hS => ?_
  show wpAny _ _ (Bytes.payload (.ref a) >>= fun r => retInt r.size) _ _ s
  exact wpAny_bind (ba_payload (c := ⟨prog, w, [], [], s.heap⟩) hS.1 (wpAny_bind (wpAny_mkInt (wpAny_pure ⟨_, rfl, hS.2⟩))))
theorem ba_len {a : Addr} {b : Array UInt8} (g : s.heap.get? a = some (baO b)) (hz : b.size ≤ big) (q : Pz c M P (.int b.size) s Q) : wpAny c.M A (call (.builtin "len") [.ref a]) Q E s := by
  have hb : big = 100000 := rfl
  exact call_len_meets (ba_type g) BA.slot_len BA.entry_len (BA.args_len _) (meets_ba_len a b) (by lia) (by lia) (fun _ hq => ⟨g, hq⟩) q.int
theorem sliceParts_w {M : Model} {sl : Addr} {vl vu : Value} {lo hi : Option Int} {Q : Value × Value × Value → Shared → Prop} (hsl : s.heap.IsSliceOf sl vl vu .none) (h1 : IsPart vl lo) (h2 : IsPart vu hi)
    (q : Q (rawPart lo, rawPart hi, rawPart none) s) : wpAny M A (Bytes.sliceParts (.ref sl)) Q E s := by
  refine exP3 hsl ?_; clear hsl; rintro o ho hc hd
  unfold Bytes.sliceParts
  refine wpAny_bind (wpAny_field (x := .none) ho hd rfl ?_)
  kby_none
  refine wpAny_ite (KBy.ite_no (show ¬ ((Value.none == rawInt 0) = true) from Bool.false_ne_true) ?_)
  refine wpAny_bind (wpAny_field (x := vl) ho hd rfl ?_)
  cases h1 <;> cases h2 <;> (first
    | (kby_none; (refine wpAny_bind (wpAny_field (x := .none) ho hd rfl ?_)); kby_none)
    | (kby_none; (refine wpAny_bind (wpAny_field (x := .int _ _) ho hd rfl ?_)); kby_int)
    | (kby_int; (refine wpAny_bind (wpAny_field (x := .none) ho hd rfl ?_)); kby_none)
    | (kby_int; (refine wpAny_bind (wpAny_field (x := .int _ _) ho hd rfl ?_)); kby_int)) <;> exact wpAny_pure q
theorem ba_getslice {a sl : Addr} {b : Array UInt8} {vl vu : Value} {lo hi : Option Int} (g : s.heap.get? a = some (baO b)) (hsl : s.heap.IsSliceOf sl vl vu .none) (h1 : IsPart vl lo) (h2 : IsPart vu hi) (hz : (baPick b lo hi).size ≤ big)
    (q : Q (.ref s.heap.objs.size) { s with heap := s.heap.push (baO (baPick b lo hi)) }) : wpAny c.M A (getItem (.ref a) (.ref sl)) Q E s := by
  refine exP3 (id hsl) ?_; rintro os hos hcs hds
  have hTs : s.TypeIs (.ref sl) "slice" := ⟨os, hos, hcs⟩
  have hT := ba_type g
  unfold getItem
  try with_reducible refine wpAny_holding ?_
  skip
  refine wpAny_bind (wpAny_sequenceKey hT (by decide) ?_)
  refine wpAny_bind (wpAny_callSpecial?_slot (name := Str.ofString "__getitem__") hT BA.slot_getitem
    (wpAny_call_entry BA.slot_getitem hT BA.entry_getitem ?_ (BA.args_getitem _ _)))
  show wpAny _ _ (Bytes.subscript? (.ref sl) >>= fun r => _) _ _ s
  refine wpAny_bind ?_
  unfold Bytes.subscript?
  refine wpAny_bind (wpAny_specialOf hTs slice_no_index (wpAny_pure ?_))
  refine wpAny_bind (wpAny_typeOf hTs ?_)
  show wpAny _ _ (Bytes.sliceParts (.ref sl) >>= fun r => _) _ _ s
  refine wpAny_bind (sliceParts_w hsl h1 h2 ?_)
  refine wpAny_bind (ba_payload g ?_)
  refine wpAny_bind (wpAny_of_eq (sliceIndices_raw lo hi none b.size (fun e => nomatch e)) ?_)
  refine wpAny_bind (wpAny_newObj_type (wpAny_pure ?_) ?_)
  · exact ⟨_, rfl, wpAny_pure q⟩
  · show (baPick b lo hi).size ≤ sizeLine
    rw [sizeLine_eq]; exact Nat.le_trans hz (by decide)
end
end
section
noncomputable def cleanC : Code → Bool
  | .builtin id _ => !(Builtin.Bytes.decodersThatHold.contains id || ["bytearray.__contains__", "bytearray.__mod__", "bytearray.__rmod__", "_struct.pack_into.held", "bytearray.find.held"].contains id)
  | _ => true
noncomputable def Clean (Γ : Ctx) : Prop := cleanC Γ.code = true ∧ ∀ x ∈ Γ.below, cleanC x.1 = true
theorem Clean.enter {Γ : Ctx} (h : Clean Γ) {c : Code} {hd : Option Value} {p : Pos} (hc : cleanC c = true) : Clean (Γ.enter c hd p) :=
  ⟨hc, fun x hx => by rcases List.mem_cons.mp hx with rfl | hx
                      · exact h.1
                      · exact h.2 x hx⟩
theorem Clean.goto {Γ : Ctx} (h : Clean Γ) {c : Code} (hc : cleanC c = true) : Clean (Γ.goto c) := ⟨hc, h.2⟩
noncomputable def W {α : Type} (M : Model) (A : Around) (t : Sem α) (Q : α → Shared → Prop) (s : Shared) : Prop :=
  ∀ Γ p, Γ.In A → Clean Γ → Sem.wp M Γ t (fun a _ s' => Q a s') (fun _ _ _ => False) p s
noncomputable def CC (M : Model) (A : Around) (c : Code) (R : Flow → Shared → Prop) (s : Shared) : Prop :=
  ∀ Γ p, Γ.code = c → Γ.Below A → Clean Γ → wpCode M Γ (fun r s' => match r with | .ok f => R f s' | .error _ => False) p s
section
variable {α β : Type} {M : Model} {A : Around} {s : Shared}
protected theorem W.of {t : Sem α} {Q : α → Shared → Prop} (h : wpAny M A t Q (fun _ _ => False) s) : W M A t Q s := fun Γ p hΓ _ => h Γ p hΓ
protected theorem W.pure {a : α} {Q : α → Shared → Prop} (h : Q a s) : W M A (pure a) Q s := fun _ _ _ _ => h
protected theorem W.mono {t : Sem α} {Q Q' : α → Shared → Prop} (h : W M A t Q s) (hQ : ∀ a s, Q a s → Q' a s) : W M A t Q' s :=
  fun Γ p hΓ hc => Sem.wp_mono M Γ t (fun a _ s => hQ a s) (fun _ _ _ x => x) p s (h Γ p hΓ hc)
protected theorem W.bind {m : Sem α} {f : α → Sem β} {Q : β → Shared → Prop} (h : W M A m (fun a s' => W M A (f a) Q s') s) : W M A (m >>= f) Q s := fun Γ p hΓ hc => by
  rw [Sem.wp_bind']
  exact Sem.wp_mono M Γ m (fun a p' s' h' => h' Γ p' hΓ hc) (fun _ _ _ h' => h') p s (h Γ p hΓ hc)
protected theorem W.holding {vs : List Value} {m : Sem α} {Q : α → Shared → Prop} (h : W M A m Q s) : W M A (holding vs m) Q s :=
  fun Γ p hΓ hc => by rw [Sem.wp_holding]; exact h Γ p hΓ hc
protected theorem W.onRaise {m : Sem α} {k : Value → Sem Unit} {Q : α → Shared → Prop} (h : W M A m Q s) : W M A (m.onRaise k) Q s := fun Γ p hΓ hc => by
  rw [Sem.wp_onRaise]
  exact Sem.wp_mono M Γ m (fun _ _ _ h' => h') (fun e p' s' h' => h'.elim) p s (h Γ p hΓ hc)
protected theorem W.attempt {m : Sem α} {Q : Except Value α → Shared → Prop} (h : W M A m (fun a => Q (.ok a)) s) : W M A m.attempt Q s := fun Γ p hΓ hc => by
  rw [Sem.wp_attempt]
  exact Sem.wp_mono M Γ m (fun _ _ _ h' => h') (fun e p' s' h' => h'.elim) p s (h Γ p hΓ hc)
protected theorem W.standAt {pos : Pos} {Q : Unit → Shared → Prop} (h : Q () s) : W M A (standAt pos) Q s := .of (wpAny_standAt h)
protected theorem W.point {Q : Unit → Shared → Prop} (h : Q () s) : W M A point Q s := .of (wpAny_point h)
protected theorem W.eq {t t' : Sem α} {Q : α → Shared → Prop} (e : t = t') (h : W M A t' Q s) : W M A t Q s := e ▸ h
protected theorem W.leaf {m : Sem α} {f : α → Sem β} {Q : β → Shared → Prop} (h : wpAny M A m (fun a s' => W M A (f a) Q s') (fun _ _ => False) s) : W M A (m >>= f) Q s := .bind (.of h)
protected theorem W.units_le {t : Sem α} {Q : α → Shared → Prop} {u : Nat} (h : W M A t Q s) (hu : u ≤ A.units) : W M { A with units := u } t Q s :=
  fun Γ p hΓ => h Γ p (hΓ.units_le hu)
protected theorem W.of_in1 {t : Sem α} {Q : α → Shared → Prop} (h : W M A.in1 t Q s) : W M A t Q s :=
  fun Γ p hΓ => h Γ p ⟨hΓ.1, hΓ.2.1, hΓ.2.2.1, hΓ.2.2.2.1, Nat.le_succ_of_le hΓ.2.2.2.2⟩
protected theorem CC.mono {c : Code} {R R' : Flow → Shared → Prop} (h : CC M A c R s) (hR : ∀ r s, R r s → R' r s) : CC M A c R' s :=
  fun Γ p hc hΓ hk => wpCode_mono (fun r s' => by cases r with | ok f => exact hR f s' | error e => exact id) (h Γ p hc hΓ hk)
protected theorem CC.of {c : Code} {R : Flow → Shared → Prop} (h : codeAny M A c (fun r s' => match r with | .ok f => R f s' | .error _ => False) s) : CC M A c R s :=
  fun Γ p hc hΓ _ => h Γ p hc hΓ
protected theorem W.run {c : Code} {h : Option Value} {Q : Flow → Shared → Prop} (hc : CC M (A.mark h) c Q s) (hk : cleanC c = true) (hnb : h ≠ some byPass) :
    W M A (PySem.run c h) Q s := fun Γ p hΓ hcl => by
  rw [Sem.wp_run]
  exact wpCode_mono (fun r s' => by cases r with | ok f => exact id | error e => exact id) (hc _ p rfl (hΓ.enter c h p hnb) (hcl.enter hk))
protected theorem W.runValue {c : Code} {Q : Value → Shared → Prop} (hc : CC M A c (fun f s' => match f with | .ret v => Q v s' | _ => False) s) (hk : cleanC c = true) :
    W M A (runValue c) Q s := fun Γ p hΓ hcl => by
  rw [Sem.wp_runValue]
  exact wpCode_mono (fun r s' => by
    cases r with
    | ok f => cases f <;> exact id
    | error e => exact id) (hc _ p rfl (hΓ.enter c none p (by intro x; cases x)) (hcl.enter hk))
protected theorem W.call {f : Value} {pos : List Value} {kw : List (Str × Value)} {Q : Value → Shared → Prop}
    (hc : CC M A (.call f ⟨pos, kw⟩) (fun f s' => match f with | .ret v => Q v s' | _ => False) s) : W M A (call f pos kw) Q s := W.runValue hc rfl
protected theorem CC.tree {c : Code} {R : Flow → Shared → Prop} (hk : cleanC c = true)
    (h : W M (A.under c) (M.den c) (fun fin s' => match fin with | .done f => R f s' | .again c' => c'.quiet = true ∧ cleanC c' = true ∧ CC M A c' R s') s) : CC M A c R s := fun Γ p hc hΓ hcl => by
  rw [wpCode_iff_wp, hc]
  refine Sem.wp_mono M Γ _ (fun fin p' s' h' => ?_) (fun _ _ _ h' => h') p s (h Γ p (hc ▸ hΓ.in) hcl)
  cases fin with
  | done f => exact h'
  | again c' => exact ⟨h'.1, h'.2.2 (Γ.goto c') p' rfl (hΓ.goto c') (hcl.goto h'.2.1)⟩
protected theorem CC.loop {c : Code} {R : Flow → Shared → Prop} (hk : cleanC c = true) (hq : c.quiet = true) (I : Nat → Shared → Prop)
    (turn : ∀ n s, I n s → W M (A.under c) (M.den c)
      (fun fin s' => match fin with | .done f => R f s' | .again c' => (c' = c ∧ ∃ m, m < n ∧ I m s') ∨ (c'.quiet = true ∧ cleanC c' = true ∧ CC M A c' R s')) s)
    (n : Nat) (h : I n s) : CC M A c R s := by
  induction n using Nat.strongRecOn generalizing s with
  | ind n ih =>
    refine CC.tree hk (W.mono (turn n s h) (fun fin s' hf => ?_))
    cases fin with
    | done f => exact hf
    | again c' =>
      rcases hf with ⟨rfl, m, hm, hI⟩ | hf
      · exact ⟨hq, hk, ih m hm hI⟩
      · exact hf
protected theorem W.exported {v : Value} {Q : Bool → Shared → Prop} (h : Q false s) : W M A (Builtin.Bytes.exported v) Q s := fun Γ p hΓ hcl => by
  show Q (((Γ.code, p) :: Γ.below).any _) s
  refine (congrArg (Q · s) ?_).mpr h
  rw [List.any_eq_false]
  intro x hx
  have hc : cleanC x.1 = true := by
    rcases List.mem_cons.mp hx with rfl | hx
    · exact hcl.1
    · exact hcl.2 x hx
  obtain ⟨c, q⟩ := x
  cases c with
  | builtin id a =>
    obtain ⟨pos, kw⟩ := a
    simp only [cleanC, Bool.not_eq_true', Bool.or_eq_false_iff] at hc
    obtain ⟨h1, h2⟩ := hc
    have ne : ∀ x ∈ ["bytearray.__contains__", "bytearray.__mod__", "bytearray.__rmod__", "_struct.pack_into.held", "bytearray.find.held"], id ≠ x := fun x hx e => by
      subst e
      rw [List.contains_iff_mem.mpr hx] at h2; cases h2
    have n1 := ne _ (.head _)
    have n2 := ne _ (.tail _ (.head _))
    have n3 := ne _ (.tail _ (.tail _ (.head _)))
    have n4 := ne _ (.tail _ (.tail _ (.tail _ (.head _))))
    have n5 := ne _ (.tail _ (.tail _ (.tail _ (.tail _ (.head _)))))
    delta PySem.Builtin.Bytes.exported.match_1 PySem.Builtin.Bytes.exported._sparseCasesOn_1
    dsimp only
    rw [dif_neg n1, dif_neg n2, dif_neg n3, dif_neg n4, dif_neg n5]
    cases pos with
    | nil => exact Bool.false_ne_true
    | cons x l => exact ne_true_of_eq_false ((congrArg (Builtin.Bytes.sameRef x v && ·) h1).trans (Bool.and_false _))
  | _ => exact Bool.false_ne_true
end
section
variable {prog : Program} {w : World} {A : Around} {s : Shared}
protected theorem CC.func {body : List Stmt} {env : Env} {R : Flow → Shared → Prop}
    (h : W (model prog w) (A.deeper env) (execs body env) (fun f s' => R (.ret (match f with | .ret v => v | _ => .none)) s') s) : CC (model prog w) A (.func body env) R s := by
  refine CC.tree rfl ?_
  show W _ (A.deeper env) (do point; match ← (execs body env).onRaise (leaving env) with | .ret v => ret v | _ => ret .none) _ s
  refine .bind (.point (.bind (.onRaise (h.mono fun f s' h' => ?_))))
  cases f <;> exact .pure h'
protected theorem CC.block {stmts : List Stmt} {env : Env} {R : Flow → Shared → Prop} (h : W (model prog w) A (execs stmts env) R s) : CC (model prog w) A (.block stmts env) R s := by
  refine CC.tree rfl ?_
  show W _ A (do return Fin.done (← (execs stmts env).onRaise (fun x => do noteFrame x env; theTreesLotGoes x))) _ s
  exact .bind (.onRaise (h.mono fun f s' h' => .pure h'))
protected theorem CC.call_function {a : Addr} {args : Args} {o : Obj} {fd : FuncData} {body : List Stmt} {R : Flow → Shared → Prop} (hroom : A.depth < recursionLimit)
    (ho : s.heap.get? a = some o) (hd' : o.data = .func fd) (hco : fd.scope.isCoroutine = false) (hgen : fd.scope.isGenerator = false) (hbody : fd.body = .stmts body) (hcd : s.heap.CodeRec fd.code fd.qualname)
    (h : wpAny (model prog w) A.in1 (bindArgs fd args) (fun binds s₁ =>
      wpAny (model prog w) A.in1 (newFunctionEnv fd.scope fd.globals fd.closure binds (fd.qualname ++ ".<locals>.") (some a) fd.code none fd.builtins)
        (fun env s₂ => s₂.heap.NoLimit ∧ CC (model prog w) A (.func body env) R s₂) (fun _ _ => False) s₁) (fun _ _ => False) s) :
    CC (model prog w) A (.call (.ref a) args) R s := by
  refine CC.tree rfl ?_
  show W _ A.in1 (callAny (.ref a) args) _ s
  simp only [callAny]
  refine .leaf (wpAny_load ho ?_)
  refine byG fun GG kk => ?_
  obtain ⟨c, oc, vs, tq, hc, hoc, hdc, hq⟩ := hcd
  refine kk ?_
  clear kk GG
  simp only [hd', callFunction, hco, hgen, hbody, hc]
  rw [hc] at h
  refine .leaf (m := field (.ref c) 1) (wpAny_field hoc hdc hq ?_)
  refine .bind (.pure ?_)
  refine .leaf (wpAny_mono h (fun binds s₁ h₁ => ?_) fun _ _ x => x)
  refine .leaf (wpAny_mono h₁ (fun env s₂ h₂ => ?_) fun _ _ x => x)
  exact .leaf (wpAny_enterFrame h₂.1 hroom (.pure ⟨rfl, rfl, h₂.2⟩))
protected theorem CC.builtin {id : String} {args : Args} {b : Builtin} {R : Flow → Shared → Prop} (hk : cleanC (.builtin id args) = true) (hb : entryFor table id = some b)
    (h : W (model prog w) (A.under (.builtin id args)) (b args) (fun fin s' => match fin with | .done f => R f s' | .again c' => c'.quiet = true ∧ cleanC c' = true ∧ CC (model prog w) A c' R s') s) :
    CC (model prog w) A (.builtin id args) R s := by
  refine CC.tree hk ?_
  show W _ _ (match entryFor table id with | some b => b args | none => unsupported ((withoutEnding? id "#data").getD id)) _ s
  rw [hb]; exact h
protected theorem CC.call_builtin {id : String} {args : Args} {b : Builtin} {R : Flow → Shared → Prop} (hk : cleanC (.builtin id args) = true) (hq : plainId id = true) (hb : entryFor table id = some b)
    (hc : wpAny (model prog w) A.in1 (checkBuiltinCall id args) (fun _ s' => s' = s) (fun _ _ => False) s)
    (h : W (model prog w) A.in1 (b args) (fun fin s' => match fin with | .done f => R f s' | .again c' => c'.quiet = true ∧ cleanC c' = true ∧ CC (model prog w) A c' R s') s) :
    CC (model prog w) A (.call (.builtin id) args) R s := by
  refine CC.tree rfl ?_
  show W _ A.in1 (do checkBuiltinCall id args; again (.builtin id args)) _ s
  refine .leaf (wpAny_mono hc (fun _ s' e => ?_) fun _ _ x => x)
  subst e
  exact .pure ⟨plainId_quiet hq args, hk, CC.builtin hk hb (by rw [Around.under_plainId hq args]; exact h)⟩
protected theorem W.neg {c : Prop} [Decidable c] {α : Type} {M : Model} {a b : Sem α} {Q : α → Shared → Prop} (hc : ¬ c) (h : W M A b Q s) : W M A (if c then a else b) Q s := by rw [if_neg hc]; exact h
protected theorem W.pos {c : Prop} [Decidable c] {α : Type} {M : Model} {a b : Sem α} {Q : α → Shared → Prop} (hc : c) (h : W M A a Q s) : W M A (if c then a else b) Q s := by rw [if_pos hc]; exact h
end
end
section
section
variable {prog : Program} {w : World} {A : Around} {s : Shared}
protected theorem W.specialSlot {self : Value} {T : String} {name : Str} {id : String} {args : List Value} {Q : Option Value → Shared → Prop} (hT : s.TypeIs self T) (hs : PySem.Slot T name id)
    (h : CC (model prog w) A (.call (.builtin id) ⟨self :: args, []⟩) (fun f s' => match f with | .ret v => Q (some v) s' | _ => False) s) :
    W (model prog w) A (callSpecial? self name args) Q s := by
  unfold callSpecial? specialOf
  refine .leaf (wpAny_bind (wpAny_typeOf hT (wpAny_of_eq hs.lookup ?_)))
  refine .holding (.bind (W.eq (hs.bind self) (.pure ?_)))
  exact .bind (W.call (h.mono fun f s' => by cases f <;> first | exact fun q => .pure q | exact fun q => q))
protected theorem W.callType {T newId initId : String} {Bi : Builtin} {args : List Value} {Q Q₁ : Value → Shared → Prop} (ft : TypeCalled T newId initId)
    (hct : checkTypeCall T ⟨args, []⟩ = pure ()) (entryI : entryFor table initId = some Bi) (hci' : ∀ a, cleanC (.builtin initId a) = true)
    (hnew : codeAny (model prog w) A.in1 (.call (.builtin newId) ⟨.type T :: args, []⟩) (wants Q₁ (fun _ _ => False)) s)
    (hnext : ∀ obj s₁, Q₁ obj s₁ → s₁.TypeIs obj T ∧ argsOk initId ⟨obj :: args, []⟩ ∧
      W (model prog w) A.in1.in1 (Bi ⟨obj :: args, []⟩) (fun fin s' => fin = .done (.ret .none) ∧ Q obj s') s₁) :
    W (model prog w) A (call (.type T) args) Q s := by
  refine exQ1 ft.mro ?_; rintro c tl hmro
  have hmade := ft.made
  have hsub := ft.sub
  have h1 := ft.notType
  have h2 := ft.canCreate
  refine W.call (CC.tree rfl ?_)
  show W _ _ (callAny (.type T) _) _ _
  refine .pure ⟨Code.quiet_builtin _ (by decide +kernel), rfl, CC.builtin rfl F.entry_type_call ?_⟩
  rw [Around.under_plain (weight_type_call_type T args []) rfl]
  unfold Builtin.«type.__call__»
  dsimp -failIfUnchanged only
  refine W.neg (fun e => Bool.false_ne_true (h1.symm.trans e)) ?_
  refine W.neg (fun e => Bool.false_ne_true (h2.symm.trans e)) ?_
  refine .bind (W.eq hct (.pure ?_))
  refine .bind (W.eq hmro (.pure ?_))
  refine W.neg (fun e => Bool.false_ne_true e) ?_
  refine .bind (W.eq hmade (.pure ?_))
  refine .bind (.pure ?_)
  refine .bind (.holding (W.call (.of (codeAny_mono hnew fun r s₁ hr => ?_))))
  cases r with
  | error e => exact hr
  | ok fl =>
    cases fl with
    | ret obj =>
      refine andP3 (hnext _ _ hr) ?_; rintro hT hok hsi
      have hli := ft.init.lookup
      have hbi := ft.init.bind obj
      show W _ _ _ _ _
      refine .leaf (wpAny_isInstance hT hsub ?_)
      refine W.neg (fun e => Bool.false_ne_true e) ?_
      refine .bind (.holding (W.specialSlot hT ft.init (CC.call_builtin (hci' _) ft.init.plain entryI (ft.init.check _ _ _ _ _ _ _ _ hT hok rfl) (hsi.mono fun fin s' h' => ?_))))
      refine andP2 h' ?_; clear h'; rintro rfl hq
      refine W.neg (fun e => Bool.false_ne_true e) ?_
      exact .pure hq
    | _ => exact hr.elim
theorem ba_new (a : Value) {Q₁ : Value → Shared → Prop} (h : Q₁ (.ref s.heap.objs.size) { s with heap := s.heap.push (baO #[]) }) :
    codeAny (model prog w) A (.call (.builtin "bytearray.__new__") ⟨[.type "bytearray", a], []⟩) (wants Q₁ (fun _ _ => False)) s := by
  refine codeAny_of_tree ?_
  show wpAny _ A.in1 (do checkBuiltinCall "bytearray.__new__" ⟨[.type "bytearray", a], []⟩; again (.builtin "bytearray.__new__" ⟨[.type "bytearray", a], []⟩)) _ _ s
  refine wpAny_bind (wpAny_of_eq (BA.newCall a) (wpAny_pure ⟨plainId_quiet BA.plain_new _, codeAny_builtin_stack BA.entry_new rfl fun p st => ?_⟩))
  rw [Around.under_plainId BA.plain_new _]
  have hsub := BA.sub_self
  have hown : ("bytearray.__new__".splitOn ".__new__").headD "" = "bytearray" := by simp +decide [String.splitOn, String.splitOnAux]
  obtain ⟨hp, g, d, tk, os⟩ := s
  simp only [hown]
  wp_walk
  exact h
end
end
section
namespace BA
theorem ends1 : ("bytearray.__release_buffer__".endsWith ("." ++ "__release_buffer__")) = true := by decide +kernel
theorem drop1 : "bytearray.__release_buffer__".dropRight ("__release_buffer__".length + 1) = "bytearray" := by decide +kernel
theorem ends2 : ("bytes.__buffer__".endsWith ("." ++ "__buffer__")) = true := by decide +kernel
theorem drop2 : "bytes.__buffer__".dropRight ("__buffer__".length + 1) = "bytes" := by decide +kernel
theorem ends3 : ("bytearray.__buffer__".endsWith ("." ++ "__buffer__")) = true := by decide +kernel
theorem drop3 : "bytearray.__buffer__".dropRight ("__buffer__".length + 1) = "bytearray" := by decide +kernel
theorem sub_bytes : isSubtype (.type "bytes") (.type "bytes") = pure true := PySem.F.bm_sub
theorem list_buffer : typeLookup (.type "list") "__buffer__" = pure none := PySem.F.bm_no_buffer
theorem list_index : typeLookup (.type "list") "__index__" = pure none := PySem.F.bm_no_index
theorem int_index : typeLookup (.type "int") "__index__" = pure (some (.builtin "int.__index__")) := PySem.int_index
end BA
section
section
variable {M : Model} {A : Around} {s : Shared}
theorem own_ba {a : Addr} {b : Array UInt8} {Q : Bool → Shared → Prop} (ho : s.heap.get? a = some (baO b)) (h : Q false s) : wpAny M A (Builtin.Bytes.ownRelease (.ref a)) Q (fun _ _ => False) s := by
  have hT : s.TypeIs (.ref a) "bytearray" := ⟨_, ho, rfl⟩
  have h1 := BA.release
  have h2 := BA.sub_self
  unfold Builtin.Bytes.ownRelease
  wp_walk
  rw [BA.ends1, BA.drop1]
  wp_walk
  exact h
theorem write_ba {a : Addr} {b : Array UInt8} {f : Array UInt8 → Array UInt8} {Q : Unit → Shared → Prop} (ho : s.heap.get? a = some (baO b))
   (hz : (f b).size ≤ big) (h : ∀ h', h'.get? a = some (baO (f b)) → (∀ x, x ≠ a → h'.get? x = s.heap.get? x) → Q () {s with heap := h'}) : wpAny M A (Builtin.Bytes.write (.ref a) f) Q (fun _ _ => False) s := by
  have hb : big = 100000 := rfl
  show wpAny M A (updateBytearray a f) _ _ _
  unfold updateBytearray
  refine wpAny_bind (wpAny_load ho ?_)
  refine wpAny_bind (wpAny_update ho ?_)
  have hg : (s.heap.update a (Obj.mapBytearray f)).get? a = some (baO (f b)) := Heap.get?_update_self _ ho rfl
  refine wpAny_lookBehind hg ?_ (h _ hg fun x hx => ?_)
  · have : ¬ (f b).size > sizeLine := by unfold sizeLine; lia
    exact if_neg this
  · exact (Heap.SameBut.update ..).2 x hx
theorem slot_bytes {b : Array UInt8} {t : Tok} {Q : Bool → Shared → Prop} (h : Q true s) : wpAny M A (Builtin.Bytes.slotIsOwn (.bytes b t) "__buffer__") Q (fun _ _ => False) s := by
  have hT : s.TypeIs (.bytes b t) "bytes" := rfl
  have h1 := BA.bytes_buffer
  have h3 := BA.sub_bytes
  unfold Builtin.Bytes.slotIsOwn
  wp_walk
  rw [BA.ends2, BA.drop2]
  wp_walk
  exact h
theorem own_bytes {b : Array UInt8} {t : Tok} {Q : Bool → Shared → Prop} (h : Q false s) : wpAny M A (Builtin.Bytes.ownRelease (.bytes b t)) Q (fun _ _ => False) s := by
  have hT : s.TypeIs (.bytes b t) "bytes" := rfl
  have h1 := BA.bytes_release
  unfold Builtin.Bytes.ownRelease Builtin.Bytes.slotIsOwn
  wp_walk
  exact h
theorem buffer_bytes {id : String} {b : Array UInt8} {t : Tok} {Q : Option (Array UInt8) → Shared → Prop} (h : Q (some b) s) : wpAny M A (Builtin.Bytes.buffer? id (.bytes b t) true) Q (fun _ _ => False) s := by
  have hT : s.TypeIs (.bytes b t) "bytes" := rfl
  have h1 := BA.bytes_buffer
  unfold Builtin.Bytes.buffer?
  refine wpAny_bind (wpAny_specialOf hT h1 ?_)
  refine wpAny_bind (slot_bytes ?_)
  refine wpAny_ite (KBy.ite_no (fun e => Bool.false_ne_true e) ?_)
  refine wpAny_bind (wpAny_specialOf hT h1 ?_)
  refine wpAny_bind (own_bytes ?_)
  refine wpAny_ite (KBy.ite_no (fun e => Bool.false_ne_true e) ?_)
  exact wpAny_bind (wpAny_bind (wpAny_pure (wpAny_pure (wpAny_pure h))))
theorem takeWhile_bytes {f : Value → Bool} (hf : ∀ i t, f (.int i t) = (decide (0 ≤ i) && decide (i < 256))) {ns : List Int} {vs : List Value} (hn : ∀ n ∈ ns, 0 ≤ n ∧ n < 256) (x : IntsAre vs ns) : vs.takeWhile f = vs := by
  induction x with
  | nil => rfl
  | cons i t r ih =>
    have h0 := hn i List.mem_cons_self
    rw [List.takeWhile_cons, hf, ih fun n hm => hn n (List.mem_cons_of_mem _ hm)]
    simp [h0]
theorem filterMap_bytes {g : Value → Option UInt8} (hg : ∀ i t, g (.int i t) = some i.toNat.toUInt8) {ns : List Int} {vs : List Value} (x : IntsAre vs ns) : vs.filterMap g = ns.map (·.toNat.toUInt8) := by
  induction x with
  | nil => rfl
  | cons i t r ih => simp only [List.filterMap_cons, hg, ih, List.map_cons]
inductive BaSrc (h : Heap) : Value → Array UInt8 → Prop
  | bytes (b : Array UInt8) (t : Tok) : BaSrc h (.bytes b t) b
  | int (n : Int) (t : Tok) (h0 : 0 < n) : BaSrc h (.int n t) (Array.replicate n.toNat 0)
  | list (l : Addr) (vs : Array Value) (k : Nat) (ns : List Int) (hl : h.get? l = some (lstO vs k)) (hi : IntsAre vs.toList ns) (hn : ∀ n ∈ ns, 0 ≤ n ∧ n < 256) : BaSrc h (.ref l) (ns.map (·.toNat.toUInt8)).toArray
theorem ba_init {prog : Program} {w : World} {a : Addr} {src : Value} {b : Array UInt8} {Q : Fin → Shared → Prop} (ho : s.heap.get? a = some (baO #[]))
    (hsrc : BaSrc s.heap src b) (hz : b.size ≤ big) (h : ∀ h', h'.get? a = some (baO b) → (∀ x, x ≠ a → h'.get? x = s.heap.get? x) → Q (.done (.ret .none)) {s with heap := h'}) :
    W (model prog w) A (Builtin.«bytearray.__init__» ⟨[.ref a, src], []⟩) Q s := by
  have h3 := BA.bind src
  have hb : big = 100000 := rfl
  unfold Builtin.«bytearray.__init__»
  dsimp -failIfUnchanged only
  refine .leaf (own_ba ho ?_)
  refine W.neg (fun e => Bool.false_ne_true e) ?_
  refine .bind (W.eq h3 (.pure ?_))
  refine .bind (.pure ?_)
  refine .bind (.pure ?_)
  refine .bind (.bind (.exported (.of ?_)))
  refine wpAny_bind (wpAny_bind (wpAny_load ho (wpAny_pure (wpAny_pure ?_))))
  refine W.neg (fun e => by simp at e) ?_
  refine .leaf (write_ba ho (by simp) fun h₁ ho₁ hs₁ => ?_)
  have hl : ∀ l o, s.heap.get? l = some o → (∀ b, o ≠ baO b) → h₁.get? l = some o := fun l o e hne => (hs₁ l (fun q => by subst q; rw [ho] at e; cases e; exact hne _ rfl)).trans e
  cases hsrc with
  | bytes _ t =>
    refine .bind (.bind (.pure (.pure ?_)))
    refine W.neg (fun e => Bool.false_ne_true e) ?_
    refine .bind (W.neg (fun e => Bool.false_ne_true e) (W.neg (fun e => Bool.false_ne_true e) (.pure ?_)))
    refine .leaf (wpAny_specialOf (T := "bytes") rfl BA.bytes_index ?_)
    refine W.neg (fun e => Bool.false_ne_true e) ?_
    refine .leaf (buffer_bytes ?_)
    refine .bind (.of (wpAny_rule ?_))
    refine .leaf (write_ba ho₁ hz fun h₂ ho₂ hs₂ => ?_)
    exact .pure (h h₂ ho₂ fun x hx => (hs₂ x hx).trans (hs₁ x hx))
  | int n t h0 =>
    have h0' : n.toNat ≤ big := by simpa using hz
    refine .bind (.pure ?_)
    refine W.neg (fun e => Bool.false_ne_true e) ?_
    refine .bind (W.neg (fun e => Bool.false_ne_true e) (W.neg (fun e => Bool.false_ne_true e) (.pure ?_)))
    refine .leaf (wpAny_specialOf (T := "int") rfl BA.int_index ?_)
    refine W.pos rfl ?_
    refine .bind (.attempt (.bind (.pure (.pure ?_))))
    refine W.neg (fun e => ?_) (W.neg (by lia) (W.neg (fun e => ?_) (W.neg (fun e => ?_) ?_)))
    · simp only [Builtin.Bytes.fitsIndex, Bool.not_eq_true', Bool.and_eq_false_iff, decide_eq_false_iff_not] at e
      lia
    · have := beq_iff_eq.mp e; lia
    · unfold Builtin.Bytes.tooLong sizeLine at e
      have := of_decide_eq_true e; lia
    refine .bind (.of (wpAny_rule ?_))
    refine W.pos h0 ?_
    refine .leaf (write_ba ho₁ hz fun h₂ ho₂ hs₂ => ?_)
    exact .pure (h h₂ ho₂ fun x hx => (hs₂ x hx).trans (hs₁ x hx))
  | list l vs k ns hl' hi hn =>
    have hg := hl _ _ hl' (fun b => by simp)
    have hT : Shared.TypeIs { s with heap := h₁ } (.ref l) "list" := ⟨_, hg, rfl⟩
    refine .leaf (wpAny_bind (wpAny_load hg (wpAny_pure ?_)))
    refine W.neg (fun e => Bool.false_ne_true e) ?_
    refine .bind (W.neg (fun e => Bool.false_ne_true e) (W.neg (fun e => Bool.false_ne_true e) (.pure ?_)))
    refine .leaf (wpAny_specialOf hT BA.list_index ?_)
    refine W.neg (fun e => Bool.false_ne_true e) ?_
    refine .bind (.bind (.of (wpAny_specialOf hT BA.list_buffer ?_)))
    refine .bind (.of (wpAny_specialOf hT BA.list_buffer ?_))
    refine .pure ?_
    refine .leaf (wpAny_typeOf hT ?_)
    refine W.pos rfl ?_
    refine .leaf (wpAny_seqItems hg rfl ?_)
    dsimp -failIfUnchanged only
    rw [takeWhile_bytes (fun _ _ => rfl) hn hi, filterMap_bytes (fun _ _ => rfl) hi]
    rw [show vs[vs.toList.length]? = none by simp]
    refine .bind (.of (wpAny_rule ?_))
    refine .leaf (write_ba ho₁ hz fun h₂ ho₂ hs₂ => ?_)
    exact .pure (h h₂ ho₂ fun x hx => (hs₂ x hx).trans (hs₁ x hx))
theorem ba_make {prog : Program} {w : World} {src : Value} {b : Array UInt8} {Q : Value → Shared → Prop} (hsrc : BaSrc s.heap src b) (hz : b.size ≤ big)
    (h : ∀ h', h'.get? s.heap.objs.size = some (baO b) → (∀ x o, s.heap.get? x = some o → h'.get? x = some o) → Q (.ref s.heap.objs.size) {s with heap := h'}) :
    W (model prog w) A (call (.type "bytearray") [src]) Q s := by
  refine W.callType (Q₁ := fun v s' => v = .ref s.heap.objs.size ∧ s' = { s with heap := s.heap.push (baO #[]) }) BA.called (BA.typeCall src) BA.entry_init (fun a => rfl) (ba_new src ⟨rfl, rfl⟩) ?_
  rintro _ _ ⟨rfl, rfl⟩
  have hg : (s.heap.push (baO #[])).get? s.heap.objs.size = some (baO #[]) := Heap.get?_push_size _ rfl
  have hsrc' : BaSrc (s.heap.push (baO #[])) src b := by
    cases hsrc with
    | bytes _ t => exact .bytes _ t
    | int n t h0 => exact .int n t h0
    | list l vs k ns hl hi hn => exact .list l vs k ns (Heap.get?_push_of_some _ hl) hi hn
  refine ⟨⟨_, hg, rfl⟩, BA.args_init _ _, ba_init hg hsrc' hz fun h' e1 e2 => ⟨rfl, h h' e1 fun x o hx => ?_⟩⟩
  exact (e2 x (Nat.ne_of_lt (Heap.lt_size hx))).trans (Heap.get?_push_of_some _ hx)
end
end
end
section
theorem bnd_lo {a n : Nat} (h : a ≤ n) : kms_lo (some (a : Int)) n = a := by
  show (if (a : Int) < 0 then n - (-(a : Int)).toNat else min a n) = a
  rw [if_neg (Int.not_lt.mpr (Int.natCast_nonneg a)), Nat.min_eq_left h]
theorem bnd_hi {a n : Nat} (h : a ≤ n) : kms_hi (some (a : Int)) n = a := by
  show (if (a : Int) < 0 then n - (-(a : Int)).toNat else min a n) = a
  rw [if_neg (Int.not_lt.mpr (Int.natCast_nonneg a)), Nat.min_eq_left h]
theorem bounds2 {a e n : Nat} (ha : a ≤ n) (he : e ≤ n) : sliceBounds (some (a : Int)) (some (e : Int)) none n = ((a : Int), (e : Int), 1) := by rw [kms_bounds, bnd_lo ha, bnd_hi he]
open Builtin
section
variable {c : Cx} {A : Around} {s : Shared}
theorem ba_setslice {a sl : Addr} {b x : Array UInt8} {t t1 t2 : Tok} {lo hi : Nat} {Q : Unit → Shared → Prop} (g : s.heap.get? a = some (baO b)) (hsl : s.heap.IsSliceOf sl (.int lo t1) (.int hi t2) .none)
    (hlo : lo ≤ hi) (hhi : hi ≤ b.size) (hx : x.size = hi - lo) (hz : b.size ≤ big)
    (q : ∀ h', h'.get? a = some (baO (b.extract 0 lo ++ x ++ b.extract hi b.size)) → (∀ y o, y ≠ a → s.heap.get? y = some o → h'.get? y = some o) → Q () { s with heap := h' }) :
    W c.M A (setItem (.ref a) (.ref sl) (.bytes x t)) Q s := by
  refine exP3 (id hsl) ?_; rintro os hos hcs hds
  have hTs : s.TypeIs (.ref sl) "slice" := ⟨os, hos, hcs⟩
  have hT := ba_type g
  have hb : big = 100000 := rfl
  unfold setItem
  refine .holding ?_
  refine .leaf (wpAny_sequenceKey hT (by decide) ?_)
  refine .bind (W.specialSlot hT BA.slot_setitem (CC.call_builtin rfl BA.slot_setitem.plain BA.entry_setitem (BA.slot_setitem.check _ _ _ _ _ _ _ _ hT (BA.args_setitem _ _ _) rfl) ?_))
  show W _ _ (Bytes.subscript? (.ref sl) >>= fun r => _) _ s
  refine .leaf ?_
  unfold Bytes.subscript?
  refine wpAny_bind (wpAny_specialOf hTs slice_no_index (wpAny_pure ?_))
  refine .leaf (wpAny_typeOf hTs ?_)
  show W _ _ (Bytes.sliceParts (.ref sl) >>= fun r => _) _ s
  refine .leaf (sliceParts_w hsl (.int _ _) (.int _ _) ?_)
  refine .leaf (wpAny_isInstance (T := "bytes") rfl BA.sub_bytes_ba ?_)
  refine W.pos rfl ?_
  refine .leaf (wpAny_bind (wpAny_bind (wpAny_specialOf (T := "bytes") rfl BA.bytes_index (wpAny_pure ?_))))
  refine wpAny_bind (wpAny_bind (wpAny_specialOf (T := "bytes") rfl BA.bytes_int (wpAny_pure ?_)))
  refine wpAny_bind (wpAny_bind (wpAny_specialOf (T := "bytes") rfl BA.bytes_float (wpAny_pure ?_)))
  refine wpAny_isInstance (T := "bytes") rfl BA.sub_bytes_complex ?_
  refine .bind (.pure ?_)
  refine W.neg (fun e => Bool.false_ne_true e) ?_
  refine .bind (.of (wpAny_rule ?_))
  refine .bind (ba_make (.bytes x t) (by rw [hx]; exact Nat.le_trans (Nat.sub_le _ _) (Nat.le_trans hhi hz)) fun h₁ e1 e2 => ?_)
  have hsl' : Heap.IsSliceOf h₁ sl (.int lo t1) (.int hi t2) .none := ⟨os, e2 _ _ hos, hcs, hds⟩
  have g' : h₁.get? a = some (baO b) := e2 _ _ g
  refine .bind (.holding (.of (sliceParts_w hsl' (.int _ _) (.int _ _) ?_)))
  refine .leaf (ba_payload (c := c) e1 ?_)
  refine .leaf (ba_payload (c := c) g' ?_)
  refine .bind (W.eq (sliceIndices_raw (some (lo : Int)) (some (hi : Int)) none b.size (fun e => nomatch e)) (.pure ?_))
  have hB := bounds2 (n := b.size) (Nat.le_trans hlo hhi) hhi
  rw [hB]
  refine W.pos rfl ?_
  refine .bind (.of (wpAny_rule ?_))
  refine W.neg (fun e => ?_) ?_
  · have e := bne_iff_ne.mp e
    apply e
    show (x.size : Int) = Max.max (lo : Int) hi - lo
    rw [Int.max_eq_right (Int.ofNat_le.mpr hlo), hx]
    exact Int.ofNat_sub hlo
  have hm : (Max.max (lo : Int) hi).toNat = hi := by rw [Int.max_eq_right (Int.ofNat_le.mpr hlo)]; rfl
  have hl : ((lo : Int)).toNat = lo := rfl
  refine .leaf (write_ba g' ?_ fun h₂ f1 f2 => ?_)
  · rw [hm, hl]
    rw [Array.size_append, Array.size_append, Array.size_extract, Array.size_extract, Nat.min_self, Nat.min_eq_left (Nat.le_trans hlo hhi), hx, Nat.sub_zero, Nat.add_sub_cancel' hlo, Nat.add_sub_cancel' hhi]
    exact hz
  refine .pure ?_
  rw [hm, hl] at f1
  exact .pure (q h₂ f1 fun y o hy e => (f2 y hy).trans (e2 _ _ e))
end
end
section
open Builtin
theorem ite_yes {c : Prop} [Decidable c] {X Y : Prop} (hc : c) (h : X) : if c then X else Y := PySem.W.KBc.ite_yes hc h
section
variable {prog : Program} {w : World} {A : Around} {s : Shared} {E : Value → Shared → Prop}
theorem bytes_made {src : Value} {b : Array UInt8} {Q : Value → Shared → Prop}
    (h : wpAny (model prog w) A.in1.in1 (Builtin.«bytes.__new__» ⟨[.type "bytes", src], []⟩) (fun fin s' => ∃ v, fin = .done (.ret v) ∧ s'.TypeIs v "bytes" ∧ Q v s') (fun _ _ => False) s) :
    wpAny (model prog w) A (call (.type "bytes") [src]) Q E s := by
  refine callType_codes (Q₁ := fun obj s₁ => s₁.TypeIs obj "bytes" ∧ Q obj s₁) F.bm_called (F.bm_typeCall _) F.entry_object_init ?_ fun obj s₁ h₁ => ?_
  · refine codeAny_of_tree ?_
    show wpAny _ A.in1.in1 (do checkBuiltinCall "bytes.__new__" ⟨[.type "bytes", src], []⟩; again (.builtin "bytes.__new__" ⟨[.type "bytes", src], []⟩)) _ _ s
    refine wpAny_bind (wpAny_of_eq (F.bm_newCall _) (wpAny_pure ⟨plainId_quiet F.bm_plain _, codeAny_builtin F.bm_entry ?_⟩))
    rw [Around.under_plainId F.bm_plain _]
    refine wpAny_mono h (fun fin s' h' => ?_) fun _ _ x => x.elim
    refine exP3 h' ?_; clear h'; rintro v rfl h1 h2
    exact ⟨h1, h2⟩
  · exact ⟨h₁.1, F.args_object_init_2 obj _, object_init_meets F.bm_called.init.lookup F.bm_called.made (by decide) prog w A.in1 _ s₁ ⟨h₁.1, rfl, h₁.2⟩⟩
theorem bytes_bytes {b : Array UInt8} {t : Tok} {Q : Value → Shared → Prop} (q : Q (.bytes b t) s) : wpAny (model prog w) A (call (.type "bytes") [.bytes b t]) Q E s := by
  refine bytes_made (b := b) ?_
  have hT : s.TypeIs (.bytes b t) "bytes" := rfl
  unfold Builtin.«bytes.__new__»
  refine wpAny_bind (wpAny_of_eq (a := true) rfl ?_)
  refine wpAny_ite (KBy.ite_no (fun e => Bool.false_ne_true e) ?_)
  refine wpAny_bind (wpAny_of_eq F.bm_sub ?_)
  refine wpAny_ite (KBy.ite_no (fun e => Bool.false_ne_true e) ?_)
  refine wpAny_bind (wpAny_of_eq (F.bm_bind _) ?_)
  refine wpAny_bind (wpAny_of_eq (a := ()) rfl ?_)
  refine wpAny_bind (wpAny_of_eq (a := ()) rfl ?_)
  refine wpAny_ite (KBy.ite_no (fun e => Bool.false_ne_true e) ?_)
  refine wpAny_bind (wpAny_specialOf hT BA.bytes_bytes ?_)
  refine wpAny_bind (wpAny_rule ?_)
  refine wpAny_bind (wpAny_typeOf hT ?_)
  refine wpAny_ite (ite_yes rfl ?_)
  show wpAny _ _ (ret (.bytes b t)) _ _ _
  exact wpAny_pure ⟨_, rfl, hT, q⟩
theorem slot_ba {a : Addr} {b : Array UInt8} {Q : Bool → Shared → Prop} (ho : s.heap.get? a = some (baO b)) (h : Q true s) : wpAny (model prog w) A (Builtin.Bytes.slotIsOwn (.ref a) "__buffer__") Q (fun _ _ => False) s := by
  have hT : s.TypeIs (.ref a) "bytearray" := ⟨_, ho, rfl⟩
  have h1 := BA.buffer
  have h3 := BA.sub_self
  unfold Builtin.Bytes.slotIsOwn
  wp_walk
  rw [BA.ends3, BA.drop3]
  wp_walk
  exact h
theorem buffer_ba {id : String} {a : Addr} {b : Array UInt8} {Q : Option (Array UInt8) → Shared → Prop} (ho : s.heap.get? a = some (baO b)) (h : Q (some b) s) : wpAny (model prog w) A (Builtin.Bytes.buffer? id (.ref a) true) Q (fun _ _ => False) s := by
  have hT : s.TypeIs (.ref a) "bytearray" := ⟨_, ho, rfl⟩
  have h1 := BA.buffer
  unfold Builtin.Bytes.buffer?
  refine wpAny_bind (wpAny_specialOf hT h1 ?_)
  refine wpAny_bind (slot_ba ho ?_)
  refine wpAny_ite (KBy.ite_no (fun e => Bool.false_ne_true e) ?_)
  refine wpAny_bind (wpAny_specialOf hT h1 ?_)
  refine wpAny_bind (own_ba ho ?_)
  refine wpAny_ite (KBy.ite_no (fun e => Bool.false_ne_true e) ?_)
  exact wpAny_bind (ba_payload (c := ⟨prog, w, [], [], s.heap⟩) ho (wpAny_pure h))
theorem bytes_ba {a : Addr} {b : Array UInt8} {Q : Value → Shared → Prop} (ho : s.heap.get? a = some (baO b)) (hz : b.size ≤ big) (q : ∀ t tk, Q (.bytes b t) { s with toks := tk }) : wpAny (model prog w) A (call (.type "bytes") [.ref a]) Q E s := by
  refine bytes_made (b := b) ?_
  have hb : big = 100000 := rfl
  have hT : s.TypeIs (.ref a) "bytearray" := ⟨_, ho, rfl⟩
  unfold Builtin.«bytes.__new__»
  refine wpAny_bind (wpAny_of_eq (a := true) rfl ?_)
  refine wpAny_ite (KBy.ite_no (fun e => Bool.false_ne_true e) ?_)
  refine wpAny_bind (wpAny_of_eq F.bm_sub ?_)
  refine wpAny_ite (KBy.ite_no (fun e => Bool.false_ne_true e) ?_)
  refine wpAny_bind (wpAny_of_eq (F.bm_bind _) ?_)
  refine wpAny_bind (wpAny_of_eq (a := ()) rfl ?_)
  refine wpAny_bind (wpAny_of_eq (a := ()) rfl ?_)
  refine wpAny_ite (KBy.ite_no (fun e => Bool.false_ne_true e) ?_)
  refine wpAny_bind (wpAny_specialOf hT BA.noBytes ?_)
  refine wpAny_bind (wpAny_bind ?_)
  show wpAny _ _ (PySem.load a >>= _) _ _ _
  refine wpAny_bind (wpAny_load ho (wpAny_pure (wpAny_pure ?_)))
  refine wpAny_ite (KBy.ite_no (fun e => Bool.false_ne_true e) ?_)
  refine wpAny_bind (wpAny_specialOf hT BA.noIndex ?_)
  refine wpAny_ite (ite_yes rfl ?_)
  refine wpAny_bind (buffer_ba ho ?_)
  refine wpAny_bind (wpAny_rule ?_)
  refine wpAny_bind (wpAny_mkBytes ?_ (by rw [sizeLine_eq]; lia))
  show wpAny _ _ (ret (.bytes b _)) _ _ _
  exact wpAny_pure ⟨_, rfl, rfl, q _ _⟩
noncomputable def IsBaIter (h : Heap) (I a : Addr) (i : Nat) : Prop := ∃ o, h.get? I = some o ∧ o.cls = .type "bytearray_iterator" ∧ o.data = .fields #[.ref a, .int i 0]
theorem baIter_type {s : Shared} {I a : Addr} {i : Nat} (y : IsBaIter s.heap I a i) : s.TypeIs (.ref I) "bytearray_iterator" :=
  let ⟨o, ho, hc, _⟩ := y; ⟨o, ho, hc⟩
theorem ba_iter {a : Addr} {b : Array UInt8} {Q : Value → Shared → Prop} (g : s.heap.get? a = some (baO b))
    (q : Q (.ref s.heap.objs.size) { s with heap := s.heap.push { cls := .type "bytearray_iterator", data := .fields #[.ref a, .int 0 0] } }) : wpAny (model prog w) A (pyIter (.ref a)) Q E s := by
  refine wpAny_pyIter_slot (ba_type g) BA.slot_iter (wpAny_call_entry BA.slot_iter (ba_type g) BA.entry_iter ?_ (BA.args_iter _))
  show wpAny _ _ (do ret (← newFields "bytearray_iterator" [.ref a, rawInt 0])) _ _ s
  exact wpAny_bind (wpAny_newObj_type (wpAny_pure ⟨_, rfl, "bytearray_iterator", _, ⟨_, Heap.get?_push_size _ rfl, rfl⟩, BA.slot_next.lookup, q⟩))
theorem ba_iter_self {I a : Addr} {i : Nat} {Q : Value → Shared → Prop} (y : IsBaIter s.heap I a i) (q : Q (.ref I) s) : wpAny (model prog w) A (pyIter (.ref I)) Q E s := by
  refine wpAny_pyIter_slot (baIter_type y) BA.slot_self (wpAny_call_entry BA.slot_self (baIter_type y) BA.entry_self ?_ (BA.args_self _))
  show wpAny _ _ (ret (.ref I)) _ _ s
  exact wpAny_pure ⟨_, rfl, "bytearray_iterator", _, baIter_type y, BA.slot_next.lookup, q⟩
theorem ba_next {I a : Addr} {i : Nat} {b : Array UInt8} {x : UInt8} {Q : Option Value → Shared → Prop} (y : IsBaIter s.heap I a i) (g : s.heap.get? a = some (baO b)) (hx : b[i]? = some x)
    (q : ∀ h', IsBaIter h' I a (i + 1) → Heap.SameBut I s.heap h' → Q (some (.int (x.toNat : Int) s.toks)) { s with heap := h', toks := s.toks + 1 }) : wpAny (model prog w) A (pyNext (.ref I)) Q E s := by
  refine exP3 (id y) ?_; rintro o ho hc hd
  unfold pyNext
  refine wpAny_bind (wpAny_attempt (wpAny_callSpecial?_slot (name := PySem.Str.ofString "__next__") (baIter_type y) BA.slot_next
    (wpAny_call_entry BA.slot_next (baIter_type y) BA.entry_next ?_ (BA.args_next _))))
  show wpAny _ _ (field (.ref I) 0 >>= _) _ _ s
  refine wpAny_bind (wpAny_field ho hd (x := .ref a) rfl ?_)
  show wpAny _ _ (PySem.load a >>= _) _ _ s
  refine wpAny_bind (wpAny_load g ?_)
  show wpAny _ _ (field (.ref I) 1 >>= _) _ _ s
  refine wpAny_bind (wpAny_field ho hd (x := .int i 0) rfl ?_)
  simp only [Int.toNat_natCast, hx]
  refine wpAny_bind (wpAny_setField ho hd (by simp) (wpAny_bind (wpAny_mkInt (wpAny_pure ⟨_, rfl, wpAny_pure (q _ ?_ (Heap.SameBut.update ..))⟩))))
  exact ⟨_, Heap.get?_update_self _ ho (Obj.isFreed_of_fields (Obj.data_mapFields hd _)), (Obj.cls_mapFields ..).trans hc, by
    rw [Obj.data_mapFields hd]; simp [rawInt]⟩
theorem ba_end {I a : Addr} {i : Nat} {b : Array UInt8} {Q : Option Value → Shared → Prop} (hh : A.handled = none) (y : IsBaIter s.heap I a i) (g : s.heap.get? a = some (baO b)) (hx : b[i]? = none)
    (q : ∀ h', Heap.ExtBut I s.heap h' → Q none { s with heap := h' }) : wpAny (model prog w) A (pyNext (.ref I)) Q E s := by
  refine exP3 (id y) ?_; rintro o ho hc hd
  unfold pyNext
  refine wpAny_bind (wpAny_attempt (wpAny_callSpecial?_slot (name := PySem.Str.ofString "__next__") (baIter_type y) BA.slot_next
    (wpAny_call_entry BA.slot_next (baIter_type y) BA.entry_next ?_ (BA.args_next _))))
  show wpAny _ _ (field (.ref I) 0 >>= _) _ _ s
  refine wpAny_bind (wpAny_field ho hd (x := .ref a) rfl ?_)
  show wpAny _ _ (PySem.load a >>= _) _ _ s
  refine wpAny_bind (wpAny_load g ?_)
  show wpAny _ _ (field (.ref I) 1 >>= _) _ _ s
  refine wpAny_bind (wpAny_field ho hd (x := .int i 0) rfl ?_)
  simp only [Int.toNat_natCast, hx]
  refine wpAny_bind (wpAny_rule (wpAny_bind (wpAny_setField ho hd (by simp) (wpAny_bind (wpAny_letGo ?_)))))
  show wpAny _ _ (newExc (.type "StopIteration") [] >>= _) _ _ _
  refine wpAny_bind ?_
  simp only [newExc, newTuple]
  refine wpAny_bind (wpAny_newObj_type ?_ (by size_fits))
  refine wpAny_bind (m := firstArgMember _ _) (wpAny_of_eq (a := Value.none) (by first | rfl | (simp only [firstArgMember]; rfl)) ?_)
  refine wpAny_newObj_type ?_ (by size_fits)
  simp only [raiseNew]
  refine wpAny_bind (wpAny_handled ?_)
  rw [show A.in1.handled = none from hh]
  refine wpAny_bind (wpAny_pure (wpAny_throw ?_))
  refine wpAny_bind (wpAny_isInstance (T := "StopIteration") (b := true) ⟨_, Heap.get?_push_size _ rfl, rfl⟩ isSubtype_stop ?_)
  exact wpAny_pure (q _ (((Heap.SameBut.update ..).extBut.push _).push _))
theorem ba_walks (hh : A.handled = none) (I a : Addr) (hne : a ≠ I) (b : Array UInt8) :
    Walks prog w A I [I, a] [I] b.size (fun i v => ∃ x u, b[i]? = some x ∧ v = .int (x.toNat : Int) u) (fun i h => IsBaIter h I a i ∧ h.get? a = some (baO b)) where
  sub := fun b hb => by simp at hb; simp [hb]
  frame := fun _ _ _ st hk => ⟨let ⟨o, ho, r⟩ := st.1; ⟨o, hk I (by simp) o ho, r⟩, hk a (by simp) _ st.2⟩
  item := fun i s Q E hi st hQ => by
    refine ba_next st.1 st.2 (x := b[i]) (by simp [hi]) fun h' hit' hs' => ?_
    exact hQ _ h' (s.toks + 1) ⟨_, _, by simp [hi], rfl⟩ ⟨hit', hs'.extBut _ _ hne st.2⟩ fun b o hb e => hs'.extBut b o (fun h => hb (by simp [h])) e
  done := fun s Q E st hQ => ba_end hh st.1 st.2 (by simp) fun h' he' => hQ h' s.toks fun b o hb e => he' b o (fun h => hb (by simp [h])) e
  self := fun _ _ _ _ st hQ => ba_iter_self st.1 hQ
end
end
section
open Builtin
section
variable {prog : Program} {w : World} {A : Around} {s : Shared} {E : Value → Shared → Prop}
theorem ba_hint {a : Addr} {b : Array UInt8} {Q : Bool → Shared → Prop} (g : s.heap.get? a = some (baO b)) (q : Q false s) : wpAny (model prog w) A (Builtin.List.listLengthHint (.ref a)) Q E s := by
  have hT := ba_type g
  have h1 := BA.slot_len.lookup
  have h2 := BA.sub_self
  unfold Builtin.List.listLengthHint
  refine wpAny_bind (wpAny_specialOf hT h1 ?_)
  dsimp only
  rw [show splitId "bytearray.__len__" = some ("bytearray", "__len__") by kernel_rfl]
  dsimp only
  refine wpAny_bind (wpAny_isInstance hT h2 ?_)
  refine wpAny_ite (KBy.ite_no (fun e => Bool.false_ne_true e) ?_)
  refine wpAny_ite (ite_yes (by decide +kernel) ?_)
  refine wpAny_bind (wpAny_typeOf hT ?_)
  exact wpAny_pure q
theorem extend_ba {R : Result → Shared → Prop} {S a : Addr} {b : Array UInt8} {c₀ : Nat} (hh : A.handled = none) (g : s.heap.get? a = some (baO b)) (hS : s.heap.get? S = some (lstO #[] c₀)) (hz : b.size ≤ big)
    (q : ∀ vs n h' tk, (∀ x o, x ≠ S → s.heap.get? x = some o → h'.get? x = some o) → h'.get? S = some (lstO vs n) → ItemsOf (fun i v => ∃ x u, b[i]? = some x ∧ v = .int (x.toNat : Int) u) vs b.size → R (.ok (.ret .none)) { s with heap := h', toks := tk }) :
    wpAny (model prog w) A.in1 (Builtin.List.listExtendWith (.ref S) (.ref a) .none)
      (fun fin s' => match fin with | .done f => R (.ok f) s' | .again c' => c'.quiet = true ∧ codeAny (model prog w) A c' R s') (fun e s' => R (.error e) s') s := by
  have hb : big = 100000 := rfl
  have hT := ba_type g
  have hSa : S ≠ a := fun e => by subst e; rw [g] at hS; simp [baO] at hS
  unfold Builtin.List.listExtendWith
  refine wpAny_bind (wpAny_typeOf hT ?_)
  have h1 : Builtin.List.listSameRef (.ref S) (.ref a) = false := by simp [Builtin.List.listSameRef, hSa]
  refine wpAny_ite (KBy.ite_no (by rw [h1]; exact fun e => Bool.false_ne_true e) ?_)
  refine wpAny_bind (ba_iter g ?_)
  have hSlt := Heap.lt_size hS
  have halt := Heap.lt_size g
  refine wpAny_bind (wpAny_holding (ba_hint (Heap.get?_push_of_some _ g) ?_))
  refine wpAny_ite (KBy.ite_no (by decide +kernel) ?_)
  have hI : IsBaIter (s.heap.push { cls := .type "bytearray_iterator", data := .fields #[.ref a, .int 0 0] }) s.heap.objs.size a 0 := ⟨_, Heap.get?_push_size _ rfl, rfl, rfl⟩
  refine wpAny_pure ⟨plainId_quiet F.plain_extend_loop _, codeAny_extend_loopS (ba_walks (A := A.in1) hh s.heap.objs.size a (Nat.ne_of_lt halt) b).toS (by rw [sizeLine_eq]; lia) S
    (by simp only [List.mem_cons, List.not_mem_nil, or_false, not_or]; exact ⟨Nat.ne_of_lt hSlt, hSa⟩) _ b.size 0 _ _ _ rfl (Nat.zero_le _)
    ⟨hI, Heap.get?_push_of_some _ g⟩ (Heap.get?_push_of_some _ hS) (ItemsOf.nil _) fun s' acc' c' hm hS' hacc => ?_⟩
  obtain ⟨m1, m2, m3, m4, m5⟩ := hm
  obtain ⟨h', gg, dd, tt, oo⟩ := s'
  simp only at m1 m2 m3 m4 m5 hS'
  subst m2 m3 m4
  refine q acc' c' h' tt (fun x o hx e => m1 x o ?_ (Heap.get?_push_of_some _ e)) hS' hacc
  have := Heap.lt_size e
  simp only [List.mem_cons, List.not_mem_nil, or_false, not_or]; exact ⟨hx, Nat.ne_of_lt this⟩
theorem list_ba {a : Addr} {b : Array UInt8} {Q : Value → Shared → Prop} (hh : A.handled = none) (g : s.heap.get? a = some (baO b)) (hz : b.size ≤ big)
    (q : ∀ vs n h' tk, Keep s.heap h' → h'.get? s.heap.objs.size = some (lstO vs n) → ItemsOf (fun i v => ∃ x u, b[i]? = some x ∧ v = .int (x.toNat : Int) u) vs b.size → Q (.ref s.heap.objs.size) { s with heap := h', toks := tk }) :
    wpAny (model prog w) A (call (.type "list") [.ref a]) Q E s := by
  refine callType_codes (Q₁ := fun obj s₁ => obj = .ref s.heap.objs.size ∧ s₁ = { s with heap := s.heap.push { cls := .type "list", data := .seq #[] } }) F.called_list (F.typeCall_list_1 _) F.entry_list_init
    (code_list_new _ ⟨rfl, rfl⟩) fun obj s₁ h₁ => ?_
  refine andP2 h₁ ?_; clear h₁; rintro rfl rfl
  have hS : (s.heap.push { cls := .type "list", data := .seq #[] }).get? s.heap.objs.size = some { cls := .type "list", data := .seq #[] } := Heap.get?_push_size _ rfl
  have hlt : a < s.heap.objs.size := Heap.lt_size g
  have hS₂ := Heap.get?_update_self (Obj.mapSeq (fun _ => (#[] : Array Value))) hS rfl
  have hk : Keep s.heap ((s.heap.push { cls := .type "list", data := .seq #[] }).update s.heap.objs.size (Obj.mapSeq (fun _ => (#[] : Array Value)))) := fun x o e =>
    (Heap.get?_update_other _ _ (Ne.symm (Nat.ne_of_lt (Heap.lt_size e)))).trans (Heap.get?_push_of_some _ e)
  refine ⟨⟨_, hS, rfl⟩, F.args_list_init_2 _ _, ?_⟩
  show wpAny _ A.in1.in1 (do let old ← Builtin.List.listItems (.ref _); Builtin.List.listUpdate (.ref _) (fun _ => #[]); letGo old.toList.reverse; Builtin.List.listExtendWith (.ref _) (.ref a) .none) _ _ _
  refine wpAny_bind ?_
  unfold Builtin.List.listItems
  refine wpAny_bind (wpAny_seqItems hS rfl (wpAny_pure ?_))
  show wpAny _ A.in1.in1 (updateSeq _ (fun _ => #[]) >>= fun _ => letGo (#[] : Array Value).toList.reverse >>= fun _ => Builtin.List.listExtendWith (.ref _) (.ref a) .none) _ _ _
  refine wpAny_bind (wpAny_updateSeq hS rfl ?_)
  refine wpAny_bind (wpAny_letGo ?_)
  generalize (s.heap.push { cls := .type "list", data := .seq #[] }).update s.heap.objs.size (Obj.mapSeq (fun _ => (#[] : Array Value))) = h₁ at hk hS₂ ⊢
  exact extend_ba (R := wants _ _) (S := s.heap.objs.size) (c₀ := 0) hh (hk _ _ g) hS₂ hz fun vs n h' tk k1 k2 k3 => ⟨rfl, q vs n h' tk (fun x o e => k1 x o (Nat.ne_of_lt (Heap.lt_size e)) (hk _ _ e)) k2 k3⟩
end
end
section
section
variable {c : Cx} {A : Around} {P M : List Addr} {σ : Sg} {s : Shared} {Q : Value → Shared → Prop}
inductive Made (c : Cx) (M P : List Addr) (h h' : Heap) : DV → Value → Prop
  | lst (a : Addr) (vs : Array Value) (n : Nat) (l : List DV) (h0 : h.objs.size ≤ a) (h1 : h'.get? a = some (lstO vs n)) (x : VRs c M P h l vs.toList) : Made c M P h h' (.lst l) (.ref a)
  | ba (a : Addr) (b : Array UInt8) (h0 : h.objs.size ≤ a) (h1 : h'.get? a = some (baO b)) : Made c M P h h' (.ba b) (.ref a)
  | dct (a : Addr) (ks : List Str) (l : List DV) (vs : List Value) (h0 : h.objs.size ≤ a) (h1 : h'.DictOf c.kd a (ks.zip vs)) (h2 : ks.length = vs.length) (x : VRs c M P h l vs) : Made c M P h h' (.dct ks l) (.ref a)
  | other (d : DV) (v : Value) (n1 : ∀ l, d ≠ .lst l) (n2 : ∀ b, d ≠ .ba b) (n3 : ∀ ks l, d ≠ .dct ks l) (x : VR c M P h' d v) : Made c M P h h' d v
theorem none_of_le {h : Heap} {a : Addr} (h0 : h.objs.size ≤ a) : h.get? a = none := by
  cases e : h.get? a with
  | none => rfl
  | some o => exact absurd (Heap.lt_size e) (Nat.not_lt.mpr h0)
theorem St.not_of_none (S : St c P M σ s.heap) {a : Addr} (h0 : s.heap.objs.size ≤ a) : a ∉ M ∧ a ∉ P ∧ a ≠ sysModules := by
  have hn := none_of_le h0
  refine ⟨fun z => ?_, fun z => ?_, ?_⟩
  · refine exP1 (S.liveM z) ?_; rintro o ho
    rw [hn] at ho; cases ho
  · refine exP1 (S.live _ z) ?_; rintro o ho
    rw [hn] at ho; cases ho
  · refine exP2 S.nl ?_; rintro mc ⟨o, es, ep, ho, _⟩ _
    have : 2 < s.heap.objs.size := Heap.lt_size (S.base _ _ ho)
    intro q
    subst q
    exact absurd (Nat.lt_of_lt_of_le this h0) (by decide)
theorem Keep.mono {M P : List Addr} {h h' : Heap} (k : Keep h h') : Mono M M P P h h' := (Ext.of_keep (O := []) k).mono (fun _ z => nomatch z)
theorem Made.vr {h' : Heap} (S : St c P M σ s.heap) (k : Keep s.heap h') {d : DV} {v : Value} (m : Made c M P s.heap h' d v) : VR c M P h' d v := by
  cases m with
  | lst a vs n l h0 h1 x =>
    refine andP3 (S.not_of_none h0) ?_; rintro p q hs
    exact ⟨a, vs, n, rfl, p, q, h1, x.mono k.mono⟩
  | ba a b h0 h1 =>
    refine andP3 (S.not_of_none h0) ?_; rintro p q hs
    exact ⟨a, rfl, p, q, h1⟩
  | dct a ks l vs h0 h1 h2 x =>
    refine andP3 (S.not_of_none h0) ?_; rintro p q hs
    exact ⟨a, vs, rfl, p, q, hs, h1, h2, x.mono k.mono⟩
  | other _ _ _ _ _ x => exact x
noncomputable def Ev (c : Cx) (O P M : List Addr) (s : Shared) (σ : Sg) (d : DV) (v : Value) (s' : Shared) : Prop :=
  ∃ M', St c P M' σ s'.heap ∧ Ext O M M' s.heap s'.heap ∧ VR c M' P s'.heap d v ∧ s'.gens = s.gens ∧ s'.os = s.os
theorem Made.fin {h' : Heap} {tk : Tok} (S : St c P M σ s.heap) (k : Keep s.heap h') {m : Bool} {d d' : DV} {σ' : Sg} {v : Value} (x : Made c M P s.heap h' d v) (e : Mine.fin m d σ = some (d', σ')) :
    Ev c [] P M s σ' d' v { s with heap := h', toks := tk } := by
  unfold Mine.fin at e
  cases m with
  | false =>
    first | exact deadP e | (refine spP e ?_; clear e; rintro rfl rfl) | (refine smP e ?_; clear e; rintro rfl) | cases e
    exact ⟨M, S.keeps k, Ext.of_keep k, x.vr S k, rfl, rfl⟩
  | true =>
    cases x with
    | lst a vs n l h0 h1 x =>
      first | exact deadP e | (refine spP e ?_; clear e; rintro rfl rfl) | (refine smP e ?_; clear e; rintro rfl) | cases e
      refine andP2 (S.add (o := .list l) (none_of_le h0) (S.not_of_none h0).2.1 (S.not_of_none h0).2.2 k fun mo => ⟨vs, n, h1, x.mono mo⟩) ?_; rintro S' E
      exact ⟨_, S', E, ⟨a, rfl, by rw [← S.len]; simp⟩, rfl, rfl⟩
    | ba a b h0 h1 =>
      first | exact deadP e | (refine spP e ?_; clear e; rintro rfl rfl) | (refine smP e ?_; clear e; rintro rfl) | cases e
      refine andP2 (S.add (o := .ba b) (none_of_le h0) (S.not_of_none h0).2.1 (S.not_of_none h0).2.2 k fun mo => h1) ?_; rintro S' E
      exact ⟨_, S', E, ⟨a, rfl, by rw [← S.len]; simp⟩, rfl, rfl⟩
    | dct a ks l vs h0 h1 h2 x =>
      first | exact deadP e | (refine spP e ?_; clear e; rintro rfl rfl) | (refine smP e ?_; clear e; rintro rfl) | cases e
      refine andP2 (S.add (o := .dict ks l) (none_of_le h0) (S.not_of_none h0).2.1 (S.not_of_none h0).2.2 k fun mo => ⟨vs, h1, h2, x.mono mo⟩) ?_; rintro S' E
      exact ⟨_, S', E, ⟨a, rfl, by rw [← S.len]; simp⟩, rfl, rfl⟩
    | other _ _ n1 n2 n3 x =>
      exfalso
      cases d with
      | lst l => exact n1 l rfl
      | ba b => exact n2 b rfl
      | dct ks l => exact n3 ks l rfl
      | _ => cases e
noncomputable def Pd (c : Cx) (M P : List Addr) (d : DV) (s : Shared) (Q : Value → Shared → Prop) : Prop :=
  ∀ v h' tk, Keep s.heap h' → Made c M P s.heap h' d v → Q v { s with heap := h', toks := tk }
theorem Pd.pz {d : DV} (q : Pd c M P d s Q) (n : objD d = none) : Pz c M P d s Q :=
  fun v h' tk k x => q v h' tk k (.other d v (fun l z => by subst z; exact deadP n.symm) (fun l z => by subst z; exact deadP n.symm) (fun k l z => by subst z; exact deadP n.symm) x)
theorem binV_sound (S : St c P M σ s.heap) {op : Operator} {x y d : DV} {a b : Value} (e : binV op x y = some d) (hx : VR c M P s.heap x a) (hy : VR c M P s.heap y b) (q : Pd c M P d s Q) :
    wpAny c.M A (binaryOp op a b) Q (fun _ _ => False) s := by
  refine elimO e ?_ ?_ <;> clear e
  · intro _ e
    refine elimO e ?_ ?_ <;> clear e
    · intro _ e
      refine elimO e ?_ ?_ <;> clear e
      · intro _ e
        refine bnd1 e ?_; clear e; intro x h e
        cases lstD_eq h
        refine elimO e ?_ ?_ <;> clear e
        · intro _ e
          refine bnd1 e ?_; clear e; intro n h2 e
          refine bnd1 e ?_; clear e; intro z h3 e
          refine bnd1 e ?_; clear e; intro i h4 e
          refine ifP e ?_; clear e; rintro ⟨rfl, h5, h6⟩ e
          cases intD_eq h2; cases one_of h3; cases intD_eq h4; cases e
          obtain ⟨u, rfl⟩ := hy
          exact lst_mul_sound S hx h5 h6 fun vs n hv => q _ _ s.toks (Keep.push _) (.lst _ vs.toArray n _ (Nat.le_refl _) (Heap.get?_push_size _ rfl) hv)
        · intro y h2 e
          refine ifP e ?_; clear e; rintro ⟨rfl, hz⟩ e
          cases lstD_eq h2; cases e
          exact lst_add_sound S hx hy hz fun vs n hv => q _ _ s.toks (Keep.push _) (.lst _ vs.toArray n _ (Nat.le_refl _) (Heap.get?_push_size _ rfl) hv)
      · intro x h e
        cases bytD_eq h
        obtain ⟨t, rfl⟩ := hx
        refine elimO e ?_ ?_ <;> clear e
        · intro _ e
          refine bnd1 e ?_; clear e; intro n h2 e
          refine ifP e ?_; clear e; rintro ⟨rfl, h1, h3, h4⟩ e
          cases intD_eq h2; cases e
          obtain ⟨u, rfl⟩ := hy
          exact bytes_mul_sound h1 h3 h4 (q.pz rfl)
        · intro y h2 e
          refine ifP e ?_; clear e; rintro ⟨rfl, hz⟩ e
          cases bytD_eq h2; cases e
          obtain ⟨u, rfl⟩ := hy
          exact bytes_add_sound hz (q.pz rfl)
    · intro x h e
      refine bnd1 e ?_; clear e; intro y h2 e
      refine ifP e ?_; clear e; rintro ⟨rfl, hz⟩ e
      cases strD_eq h; cases strD_eq h2; cases e
      obtain ⟨t, rfl⟩ := hx
      obtain ⟨u, rfl⟩ := hy
      exact str_add_sound hz (q.pz rfl)
  · intro i h e
    refine bnd1 e ?_; clear e; intro j h2 e
    refine map1 e ?_; clear e; rintro r e1 rfl
    cases intD_eq h; cases intD_eq h2
    obtain ⟨t, rfl⟩ := hx
    obtain ⟨u, rfl⟩ := hy
    exact binI_sound e1 (q.pz rfl)
end
end
section
section
variable {c : Cx} {A : Around} {P M : List Addr} {σ : Sg} {s : Shared} {Q : Value → Shared → Prop}
theorem ba_of (S : St c P M σ s.heap) {d : DV} {v : Value} {b : Array UInt8} (e : bytesOf σ d = some b) (x : VR c M P s.heap d v) : ∃ a, v = .ref a ∧ s.heap.get? a = some (baO b) := by
  refine elimO e ?_ ?_ <;> clear e
  · intro _ e
    refine bnd1 e ?_; clear e; intro i h e
    cases locD_eq h
    obtain ⟨a, e1, e2⟩ := x
    exact ⟨a, e1, S.get e2 (baAt_eq e)⟩
  · intro l' h e
    cases baD_eq h; cases e
    obtain ⟨a, e1, _, _, e2⟩ := x
    exact ⟨a, e1, e2⟩
theorem VRs.one {d : DV} {vs : List Value} (x : VRs c M P s.heap [d] vs) : ∃ v, vs = [v] ∧ VR c M P s.heap d v := by
  unfold VRs at x
  refine exQ3 x ?_; clear x; rintro v r rfl x1 x2
  unfold VRs at x2
  subst x2
  exact ⟨v, rfl, x1⟩
theorem VRs.two {d e : DV} {vs : List Value} (x : VRs c M P s.heap [d, e] vs) : ∃ v w, vs = [v, w] ∧ VR c M P s.heap d v ∧ VR c M P s.heap e w := by
  unfold VRs at x
  refine exQ3 x ?_; clear x; rintro v r rfl x1 x2
  refine exP2 x2.one ?_; rintro w rfl x3
  exact ⟨v, w, rfl, x1, x3⟩
theorem preSum_ints : ∀ {vs : List Value} {ns : List Int}, IntsAre vs ns → preSum (fun i => ns.getD i 0) ns.length = ns.sum := by
  intro vs ns _
  have : ∀ (ns : List Int) (k : Nat), k ≤ ns.length → preSum (fun i => ns.getD i 0) k = (ns.take k).sum := by
    intro ns k
    induction k with
    | zero => intro _; rfl
    | succ k ih =>
      intro h
      show preSum _ k + ns.getD k 0 = _
      rw [ih (by lia), List.take_add_one, List.sum_append, List.getD_eq_getElem?_getD]
      rw [List.getElem?_eq_getElem (by lia)]
      simp
  rw [this ns _ (Nat.le_refl _), List.take_length]
theorem ints_at {vs : List Value} {ns : List Int} (x : IntsAre vs ns) : ∀ {i : Nat} {v : Value}, vs[i]? = some v → ∃ t, v = .int (ns.getD i 0) t := by
  induction x with
  | nil => intro i v h; simp at h
  | cons k t r ih =>
    intro i v h
    cases i with
    | zero => simp at h; subst h; exact ⟨t, rfl⟩
    | succ i => simp at h; simpa using ih h
theorem sum_sound {a : Addr} {vs : Array Value} {n : Nat} {ns : List Int} (hh : A.handled = none) (g : s.heap.get? a = some (lstO vs n)) (hi : IntsAre vs.toList ns) (q : Pz c M P (.int ns.sum) s Q) : wpAny c.M A (call (.builtin "sum") [.ref a]) Q (fun _ _ => False) s := by
  refine call_sum_walkAnyS (wpAny_pyIter_list (isList g) ?_)
  have hlt := Heap.lt_size g
  refine ⟨_, _, _, _, _, _, _, fun i => ns.getD i 0, rfl, (Walks.list (A := A.in1) hh s.heap.objs.size a (Nat.ne_of_lt hlt) vs).toS, ⟨⟨_, Heap.get?_push_size _ rfl, rfl, rfl⟩, isList (Heap.get?_push_of_some _ g)⟩, ?_, ?_, ?_⟩
  · intro b hb
    simp only [List.mem_cons, List.not_mem_nil, or_false] at hb
    show _ < (s.heap.push _).objs.size
    rw [Heap.size_push]
    rcases hb with e | e
    · rw [e]; exact Nat.lt_succ_self _
    · rw [e]; exact Nat.lt_succ_of_lt hlt
  · intro i v hv
    exact ints_at hi (by simpa using hv)
  · intro s' t' hm
    have hl : vs.size = ns.length := by simpa using hi.length
    rw [hl, preSum_ints hi]
    obtain ⟨m1, m2, m3, m4, m5⟩ := hm
    obtain ⟨h', gg, dd, tt, oo⟩ := s'
    simp only at m1 m2 m3 m4 m5
    subst m2 m3 m4
    exact q _ h' tt (fun x o e => m1 x o (by simp only [List.mem_cons, List.not_mem_nil, or_false]; exact Nat.ne_of_lt (Heap.lt_size e)) (Heap.get?_push_of_some _ e)) ⟨t', rfl⟩
theorem len_sound (S : St c P M σ s.heap) {d r : DV} {v : Value} (e : lenV σ d = some r) (x : VR c M P s.heap d v) (q : Pd c M P r s Q) : W c.M A (call (.builtin "len") [v]) Q s := by
  have hb : big = 100000 := rfl
  refine elimO e ?_ ?_ <;> clear e
  · intro _ e
    refine elimO e ?_ ?_ <;> clear e
    · intro _ e
      refine elimO e ?_ ?_ <;> clear e
      · intro _ e
        refine bnd1 e ?_; clear e; intro b e1 e
        refine ifP e ?_; clear e; intro h e
        cases e
        obtain ⟨a, rfl, g⟩ := ba_of S e1 x
        exact .of (ba_len g h (q.pz rfl))
      · intro l' e1 e
        refine ifP e ?_; clear e; intro h e
        cases e
        obtain ⟨a, xs, n, rfl, g, x'⟩ := lst_of_items S e1 x
        have hl : l'.length = xs.size := x'.length
        have q' := q.pz rfl
        rw [hl] at q'
        exact .of (Calls.call_len_list (isList g) (by lia) q'.int)
    · intro b h1 e
      refine ifP e ?_; clear e; intro h e
      cases bytD_eq h1; cases e
      obtain ⟨t, rfl⟩ := x
      exact .of (W.len_bytes (by lia) (q.pz rfl).int)
  · intro l h1 e
    refine ifP e ?_; clear e; intro h e
    cases tupD_eq h1; cases e
    obtain ⟨a, xs, n, rfl, _, _, g, x⟩ := x
    have hl : l.length = xs.size := x.length
    have q' := q.pz rfl
    rw [hl] at q'
    exact .of (PySem.P.len_tuple g (by lia) q'.int)
theorem oct_sound {l : List DV} {b : Array UInt8} {vs : List Value} {X : Prop} (e : octsV l = some b) (x : VRs c M P s.heap l vs) (k : ∀ ns, IntsAre vs ns → (∀ n ∈ ns, 0 ≤ n ∧ n < 256) → ns.length ≤ big → b = byteArr ns → X) : X :=
  bnd1 e fun ns e1 e => ifP e fun h e => k ns (ints_are e1 x) h.1 h.2 (Option.some.inj e).symm
theorem bytes_sound (hh : A.handled = none) (S : St c P M σ s.heap) {d r : DV} {v : Value} (e : bytesV d = some r) (x : VR c M P s.heap d v) (q : Pd c M P r s Q) : W c.M A (call (.type "bytes") [v]) Q s := by
  refine elimO e ?_ ?_ <;> clear e
  · intro _ e
    refine elimO e ?_ ?_ <;> clear e
    · intro _ e
      refine bnd1 e ?_; clear e; intro l h1 e
      refine map1 e ?_; clear e; rintro b e rfl
      cases lstD_eq h1
      obtain ⟨a, xs, n, rfl, _, _, g, x'⟩ := x
      refine oct_sound e x' ?_; rintro ns hi h1 h2 rfl
      have hb : big = 100000 := rfl
      exact .of (call_bytes_ints (vs := xs.toList) (isList g) hi h1 (by rw [sizeLine_eq, hi.length]; lia) hh fun h' t k kk => (q.pz rfl) _ h' k kk ⟨t, rfl⟩)
    · intro b h1 e
      refine ifP e ?_; clear e; intro h e
      cases baD_eq h1; cases e
      obtain ⟨a, rfl, _, _, g⟩ := x
      exact .of (bytes_ba g h fun t tk => (q.pz rfl) _ _ tk Keep.refl ⟨t, rfl⟩)
  · intro b h1 e
    cases bytD_eq h1; cases e
    obtain ⟨t, rfl⟩ := x
    exact .of (bytes_bytes ((q.pz rfl) _ _ s.toks Keep.refl ⟨t, rfl⟩))
theorem baV_sound (hh : A.handled = none) (S : St c P M σ s.heap) {d r : DV} {v : Value} (e : baV d = some r) (x : VR c M P s.heap d v) (q : Pd c M P r s Q) : W c.M A (call (.type "bytearray") [v]) Q s := by
  have hb : big = 100000 := rfl
  refine elimO e ?_ ?_ <;> clear e
  · intro _ e
    refine elimO e ?_ ?_ <;> clear e
    · intro _ e
      refine bnd1 e ?_; clear e; intro l h1 e
      refine map1 e ?_; clear e; rintro b e rfl
      cases lstD_eq h1
      obtain ⟨a, xs, n, rfl, _, _, g, x'⟩ := x
      refine oct_sound e x' ?_; rintro ns hi h1 h2 rfl
      exact ba_make (.list a xs n ns g hi h1) (by simp; lia) fun h' e1 e2 => q _ h' s.toks e2 (.ba _ _ (Nat.le_refl _) e1)
    · intro b h1 e
      refine ifP e ?_; clear e; intro h e
      cases bytD_eq h1; cases e
      obtain ⟨t, rfl⟩ := x
      exact ba_make (.bytes _ t) h fun h' e1 e2 => q _ h' s.toks e2 (.ba _ _ (Nat.le_refl _) e1)
  · intro i h1 e
    refine ifP e ?_; clear e; intro h e
    cases intD_eq h1; cases e
    obtain ⟨t, rfl⟩ := x
    exact ba_make (.int _ t h.1) (by simp; lia) fun h' e1 e2 => q _ h' s.toks e2 (.ba _ _ (Nat.le_refl _) e1)
theorem max_eq {a b : Int} : (max a b = a ∧ ¬ a < b) ∨ (max a b = b ∧ a < b) := by lia
theorem octs_are {b : Array UInt8} {vs : Array Value} {h : Heap} (hI : ItemsOf (fun i v => ∃ x u, b[i]? = some x ∧ v = .int (x.toNat : Int) u) vs b.size) : VRs c M P h (b.toList.map fun x => .int x.toNat) vs.toList := by
  refine VRs.of_all (by simp [hI.1]) fun i d v h1 h2 => ?_
  obtain ⟨y, u, y1, rfl⟩ := hI.2 i v (by rwa [Array.getElem?_toList] at h2)
  rw [List.getElem?_map, Array.getElem?_toList, y1] at h1
  cases h1
  exact ⟨u, rfl⟩
theorem max_val {a b : Int} {t u tk : Tok} {h' : Heap} {Q : Value → Shared → Prop} (k : Keep s.heap h') (q : Pz c M P (.int (max a b)) s Q) : Q (if a < b then .int b u else .int a t) { s with heap := h', toks := tk } := by
  rcases max_eq (a := a) (b := b) with ⟨e, h⟩ | ⟨e, h⟩ <;> rw [e] at q
  · rw [if_neg h]; exact q _ h' tk k ⟨t, rfl⟩
  · rw [if_pos h]; exact q _ h' tk k ⟨u, rfl⟩
theorem small_log {a : Int} (h : 0 ≤ a ∧ a < 10) : a.natAbs.log2 < 1920 := by
  have : a.natAbs < 2 ^ 4 := by lia
  rcases Nat.eq_zero_or_pos a.natAbs with e | e
  · rw [e]; decide
  · exact Nat.lt_trans ((Nat.log2_lt (Nat.ne_of_gt e)).mpr this) (by decide)
theorem primV_sound (hh : A.handled = none) (S : St c P M σ s.heap) {b : BI} {l : List DV} {d : DV} {vs : List Value} (e : primV σ b l = some d) (hv : VRs c M P s.heap l vs) (q : Pd c M P d s Q) :
    W c.M A (call b.val vs) Q s := by
  have one : ∀ {f : DV → Option DV}, (oneOf l).bind f = some d → (∀ x v, vs = [v] → VR c M P s.heap x v → f x = some d → W c.M A (call b.val vs) Q s) → W c.M A (call b.val vs) Q s := fun e k =>
    bnd1 e fun x h1 h2 => by
      cases one_of h1
      obtain ⟨v, hv1, hx⟩ := hv.one
      exact k x v hv1 hx h2
  cases b with
  | len => exact one e fun x v hv hx e => by subst hv; exact len_sound S e hx q
  | sum =>
    exact one e fun x v hv hx e => bnd1 e fun l h1 e => map1 e fun ns e1 z => by
      subst hv z
      cases lstD_eq h1
      obtain ⟨a, xs, n, rfl, _, _, g, x'⟩ := hx
      exact .of (sum_sound hh g (ints_are e1 x') (q.pz rfl))
  | max =>
    refine bnd1 e ?_; clear e; intro p h1 e
    refine bnd1 e ?_; clear e; intro i h2 e
    refine bnd1 e ?_; clear e; intro j h3 e
    clear one
    cases two_of h1
    obtain ⟨v, w, rfl, x1, x2⟩ := hv.two
    rw [intD_eq h2] at x1
    rw [intD_eq h3] at x2
    cases e
    obtain ⟨t, rfl⟩ := x1; obtain ⟨u, rfl⟩ := x2
    refine .of (max_two_ints hh fun h' tk k => ?_)
    exact max_val k (q.pz rfl)
  | str =>
    exact one e fun x v hv hx e => bnd1 e fun a h1 e => ifP e fun h e' => by
      subst hv
      cases intD_eq h1; cases e'
      obtain ⟨t, rfl⟩ := hx
      exact .of (PySem.P.str_of_int (small_log h) ((q.pz rfl) _ _ _ Keep.refl ⟨_, rfl⟩))
  | bytes => exact one e fun x v hv hx e => by subst hv; exact bytes_sound hh S e hx q
  | bytearray => exact one e fun x v hv hx e => by subst hv; exact baV_sound hh S e hx q
  | list =>
    exact one e fun x v hv hx e => bnd1 e fun b e1 e => ifP e fun h e' => by
      subst hv
      cases e'
      obtain ⟨a, rfl, g⟩ := ba_of S e1 hx
      exact .of (list_ba hh g h fun vs n h' tk k g' hI => q _ h' tk k (.lst _ vs n _ (Nat.le_refl _) g' (octs_are hI)))
  | tuple =>
    exact one e fun x v hv hx e => bnd1 e fun l h1 e => ifP e fun h e' => by
      subst hv
      cases lstD_eq h1; cases e'
      obtain ⟨a, xs, n, rfl, _, _, g, x'⟩ := hx
      have hb : big = 100000 := rfl
      have hl : l.length = xs.size := x'.length
      refine .of (call_tuple_list (isList g) (fun h' k => ?_) (by rw [sizeLine_eq]; lia))
      have k' : Keep s.heap (h'.push (tupO xs 0)) := Keep.trans k (Keep.push _)
      have f := (S.keeps k).fresh
      exact q.pz rfl _ _ s.toks k' ⟨_, xs, 0, rfl, f.1, f.2.1, Heap.get?_push_size _ rfl, x'.mono k'.mono⟩
end
end
section
set_option genSizeOf false
set_option genInjectivity false
structure Tb where
  kind : Str → Option NameKind
  nm : List (Option Str)
  gl : Str → Option Value
  mt : Str → Nat → Option (Addr × Addr)
  mu : List Pos
  ats : List Str
noncomputable def idx (x : Str) : List (Option Str) → Option Nat
  | [] => none
  | some y :: r => if y = x then some 0 else (idx x r).map (· + 1)
  | none :: r => (idx x r).map (· + 1)
noncomputable def Tb.isVar (T : Tb) (x : Str) : Bool := match T.kind x with
  | some .local | some .cell | some .free => true
  | _ => false
noncomputable def Tb.var (T : Tb) (x : Str) : Option Nat := if T.isVar x then idx x T.nm else none
noncomputable abbrev stk : IE := .stk
noncomputable abbrev stkS : IS := .ex .stk
noncomputable def trC : Const → IE
  | .none => .k .none
  | .bool b => .k (.bool b)
  | .int i => .k (.int i)
  | .str s => .k (.str s)
  | .bytes b => .k (.bytes b.toArray)
  | _ => stk
noncomputable def strOf : Expr → Option Str
  | .Constant (.str k) _ _ => some k
  | _ => none
noncomputable def keysOf : List (Option Expr) → Option (List Str)
  | [] => some []
  | o :: r => (o.bind strOf).bind fun k => (keysOf r).map (k :: ·)
noncomputable def biB (n : String) : Option BI := if n = "len" then some .len else if n = "sum" then some .sum else if n = "max" then some .max else none
noncomputable def biT (n : String) : Option BI := if n = "str" then some .str else if n = "bytes" then some .bytes else if n = "bytearray" then some .bytearray else if n = "list" then some .list else if n = "tuple" then some .tuple else none
noncomputable def biOf (v : Value) : Option BI := match v with
  | .builtin n => biB n
  | .type n => biT n
  | _ => none
noncomputable def headOf (T : Tb) : Expr → Option BI
  | .Name x _ => if T.kind x = some .globalImplicit ∧ x ≠ "__debug__" then (T.gl x).bind biOf else none
  | _ => none
noncomputable def nameOf : Expr → Option Str
  | .Name x _ => some x
  | _ => none
noncomputable def isName (T : Tb) (x : Str) (u : Value) (e : Expr) : Bool := (nameOf e).elim false fun y => decide (y = x) && decide (T.kind x = some .globalImplicit) && (T.gl x).elim false (· == u)
noncomputable def callOf : Expr → Option (Expr × Expr × Pos)
  | .Call f args kw p => cond kw.isEmpty ((oneOf args).map fun x => (f, x, p)) none
  | _ => none
noncomputable def srcOf (T : Tb) (e : Expr) : IK × Expr := (callOf e).elim (.seq, e) fun q =>
  cond (isName T "range" (.type "range") q.1) (.range, q.2.1) (cond (isName T "enumerate" (.type "enumerate") q.1) (.enum, q.2.1) (.seq, e))
noncomputable def tupE : Expr → Option (List Expr)
  | .Tuple l _ _ => some l
  | _ => none
noncomputable def namesOf (e : Expr) : Option (List Str) := (tupE e).elim ((nameOf e).map fun x => [x]) fun l =>
  (twoOf l).bind fun p => (nameOf p.1).bind fun x => (nameOf p.2).bind fun y => if x = y then none else some [x, y]
noncomputable def compTb (T : Tb) (scope : Scope) (vs : List Str) : Tb :=
  let kd : Str → Option NameKind := fun x => (scope.names.map fun (n, k) => if k == .free && T.kind n == some .cell then (n, NameKind.cell) else (n, k)).lookup x
  { T with kind := kd, nm := T.nm.map (fun o => o.bind fun x => match kd x with | some .cell | some .free => some x | _ => none) ++ vs.map some }
noncomputable def compOk (T : Tb) (scope : Scope) (vs : List Str) : Bool :=
  (match scope.kind with | .function => true | _ => false) &&
  (scope.names.all fun (n, k) => k != .cell && (k != .local || scope.names.lookup n == some .local) && (k != .free || (T.kind n == some .cell || T.kind n == some .free))) &&
  vs.all fun x => scope.names.lookup x == some .local
noncomputable def isSlice : Expr → Bool
  | .Slice .. => true
  | _ => false
noncomputable def isComp : Expr → Bool
  | .ListComp .. | .SetComp .. | .DictComp .. => true
  | _ => false
noncomputable def baseOk : Expr → Bool
  | .Call (.Name ..) [] [] _ => false
  | _ => true
noncomputable def ikOk : IK → List Str → Bool
  | .enum, [_, _] => true
  | .enum, _ => false
  | _, [_] => true
  | _, _ => false
noncomputable def ints2 (n : Nat) : List Str → List Nat
  | [] => []
  | _ :: r => n :: ints2 (n + 1) r
noncomputable def optE {α : Type} (o : Option α) (f : α → IE) : IE := o.elim stk f
noncomputable def ifE (b : Bool) (x : IE) : IE := cond b x stk
noncomputable def trN (T : Tb) (x : Str) : IE :=
  if x = "__debug__" ∨ x = "__classdict__" then stk
  else if T.kind x = some .globalImplicit then optE (T.gl x) .g
  else optE (T.var x) .v
noncomputable def attrOf : Expr → Option (Expr × Str × Pos)
  | .Attribute o x p => some (o, x, p)
  | _ => none
noncomputable def sliceOf : Expr → Option (Option Expr × Option Expr × Option Expr)
  | .Slice a b d _ => some (a, b, d)
  | _ => none
noncomputable def compOf (l : List Comprehension) : Option (Expr × Expr) := (oneOf l).bind fun g => if g.ifs.isEmpty && g.is_async == 0 then some (g.target, g.iter) else none
noncomputable def trBool (t : Expr → IE) (a b : Expr) : BoolOp → IE
  | .And => .and (t a) (t b)
  | .Or => .or (t a) (t b)
noncomputable def trU (t : Expr → IE) (a : Expr) : UnaryOp → IE
  | .USub => .neg (t a)
  | .Not => .not (t a)
  | _ => stk
noncomputable def trMeth (t : Expr → IE) (T : Tb) (o : Expr) (x : Str) (args : List Expr) : IE :=
  (oneOf args).elim (optE (T.mt x args.length) fun q => .meth q.1 q.2 x (t o) (args.map t)) fun a =>
    if x = "append" then .app (t o) (t a) else if x = "pop" then .pop (t o) (t a) else if x = "get" then .dget (t o) (t a)
    else optE (T.mt x args.length) fun q => .meth q.1 q.2 x (t o) (args.map t)
noncomputable def trCall (t : Expr → IE) (T : Tb) (f : Expr) (args : List Expr) (pos : Pos) : IE :=
  (attrOf f).elim (ifE (decide (args.length < 20)) ((headOf T f).elim (.call (t f) (args.map t)) fun b => .prim (decide (pos ∈ T.mu)) b (args.map t)))
    fun q => ifE (baseOk q.1 && q.2.2.endLine == pos.line && decide (args.length < 20)) (trMeth t T q.1 q.2.1 args)
noncomputable def tr : Nat → Tb → Expr → IE
  | 0, _, _ => stk
  | n + 1, T, e => match e with
    | .Constant c _ _ => trC c
    | .Name x _ => trN T x
    | .BoolOp op l _ => optE (twoOf l) fun p => trBool (tr n T) p.1 p.2 op
    | .BinOp a op b pos => .bin (decide (pos ∈ T.mu)) op (tr n T a) (tr n T b)
    | .UnaryOp op a _ => trU (tr n T) a op
    | .IfExp c a b _ => .ite (tr n T c) (tr n T a) (tr n T b)
    | .Dict keys values pos => optE (keysOf keys) fun ks => .dct (decide (pos ∈ T.mu)) ks (values.map (tr n T))
    | .List elts pos => .lst (decide (pos ∈ T.mu)) (elts.map (tr n T))
    | .Tuple elts _ _ => .tup (elts.map (tr n T))
    | .Compare a ops rs _ => optE (oneOf ops) fun op => optE (oneOf rs) fun b => .cmp op (tr n T a) (tr n T b)
    | .Attribute a x _ => ifE (baseOk a && decide (x ∈ T.ats)) (.attr (tr n T a) x)
    | .Subscript a i _ => (sliceOf i).elim (.sub (tr n T a) (tr n T i)) fun q => .sl (tr n T a) (q.1.map (tr n T)) (q.2.1.map (tr n T)) (q.2.2.map (tr n T))
    | .Call f args kw pos => ifE kw.isEmpty (trCall (tr n T) T f args pos)
    | .ListComp elt gens scope _ => optE (compOf gens) fun g => optE (namesOf g.1) fun vs =>
      ifE (compOk T scope vs && ikOk (srcOf T g.2).1 vs) (.comp (srcOf T g.2).1 (tr n T (srcOf T g.2).2) (ints2 T.nm.length vs) (tr n (compTb T scope vs) elt))
    | _ => stk
noncomputable def trTi (t : Expr → IE) (o i : Expr) : Option IT :=
  (sliceOf i).elim (some (.it (t o) (t i))) fun q => q.1.bind fun lo => q.2.1.bind fun hi => if q.2.2.isNone then some (.sl (t o) (t lo) (t hi)) else none
noncomputable def trT (n : Nat) (T : Tb) : Expr → Option IT
  | .Name x _ => (T.var x).map .nm
  | .Attribute o a _ => if a ∈ T.ats then some (.at (tr n T o) a) else none
  | .Subscript o i _ => trTi (tr n T) o i
  | _ => none
noncomputable def trTs (n : Nat) (T : Tb) : List Expr → Option (List IT)
  | [] => some []
  | t :: ts => (trT n T t).bind fun x => (trTs n T ts).map (x :: ·)
noncomputable def swpOf (T : Tb) (ts vs : List Expr) : Option (Option (List Str)) :=
  if !(ts.length == 2 || ts.length == 3) || vs.length != ts.length then some none
  else if vs.any (fun | .Starred .. => true | _ => false) then some none
  else
    let line := (ts.head?.map (·.pos.line)).getD 0
    let names := ts.filterMap fun
      | .Name id pos => if T.kind id == some .local && pos.line == line then some id else none
      | _ => none
    if names.length != ts.length || names.eraseDups.length != names.length then some none
    else if vs.all (foldedForSure 8) then some none
    else if vs.all (constantsAlone 8) then none
    else some (some names)
noncomputable def nmsT (T : Tb) : List Str → Option (List IT)
  | [] => some []
  | x :: r => (T.var x).bind fun i => (nmsT T r).map (.nm i :: ·)
noncomputable def optS {α : Type} (o : Option α) (f : α → IS) : IS := o.elim stkS f
noncomputable def ifS' (b : Bool) (x : IS) : IS := cond b x stkS
noncomputable def trTup (n : Nat) (T : Tb) (ts : List Expr) (v : Expr) : IS :=
  (tupE v).elim (optS (trTs n T ts) fun its => .asgs false its (tr n T v)) fun vs => optS (swpOf T ts vs) fun r =>
    r.elim (optS (trTs n T ts) fun its => .asgs false its (tr n T v)) fun names => optS (nmsT T names) fun its => .asgs true its (tr n T v)
noncomputable def trAsg (n : Nat) (T : Tb) (t v : Expr) : IS :=
  (tupE t).elim (optS (trT n T t) fun it => .asg it (tr n T v)) fun ts => ifS' (!isComp v) (trTup n T ts v)
noncomputable def zipOf (T : Tb) : Expr → Option (Expr × Expr)
  | .Call f args kw _ => if kw.isEmpty && isName T "zip" (.type "zip") f then twoOf args else none
  | _ => none
noncomputable def isEnum : IK → Bool
  | .enum => true
  | _ => false
noncomputable def trFor (n : Nat) (T : Tb) (target iter : Expr) (b : List IS) : IS :=
  (tupE target).elim (optS (nameOf target) fun x => optS (T.var x) fun i => ifS' (!isEnum (srcOf T iter).1) (.for_ [i] (srcOf T iter).1 (tr n T (srcOf T iter).2) b)) fun l =>
    optS (twoOf l) fun p => optS (nameOf p.1) fun x => optS (nameOf p.2) fun y => optS (T.var x) fun i => optS (T.var y) fun j => ifS' (!decide (x = y))
      ((zipOf T iter).elim (.for_ [i, j] .pairs (tr n T iter) b) fun q => .forZ i j (tr n T q.1) (tr n T q.2) b)
noncomputable def trS : Nat → Tb → Stmt → IS
  | 0, _, _ => stkS
  | n + 1, T, st => match st with
    | .Expr v _ => ifS' (!isComp v) (.ex (tr n T v))
    | .Return v _ => .ret (v.map (tr n T))
    | .Continue _ => .cont
    | .Assign ts v _ => optS (oneOf ts) fun t => trAsg n T t v
    | .If c a b _ => .ifS (tr n T c) (a.map (trS n T)) (b.map (trS n T))
    | .While c b e _ => ifS' e.isEmpty (.whl (tr n T c) (b.map (trS n T)))
    | .For target iter b e _ => ifS' e.isEmpty (trFor n T target iter (b.map (trS n T)))
    | _ => stkS
section
variable {X : Prop} {H : Hd} {n : Nat} {ρ : Rho} {σ : Sg} {α : Type}
theorem ev_stk' {r : DV × Sg} (e : ev H n stk ρ σ = some r) : X := by cases n <;> exact deadP e
theorem ex_stk' {r : Fl × Rho × Sg} (e : ex H n stkS ρ σ = some r) : X := by
  cases n with
  | zero => exact deadP e
  | succ n => cases n <;> exact deadP e
theorem optE_P {o : Option α} {f : α → IE} {r : DV × Sg} (e : ev H n (optE o f) ρ σ = some r) (k : ∀ a, o = some a → ev H n (f a) ρ σ = some r → X) : X := by
  cases o with
  | none => exact ev_stk' e
  | some a => exact k a rfl e
theorem ifE_P {b : Bool} {x : IE} {r : DV × Sg} (e : ev H n (ifE b x) ρ σ = some r) (k : b = true → ev H n x ρ σ = some r → X) : X := by
  cases b with
  | false => exact ev_stk' e
  | true => exact k rfl e
theorem optS_P {o : Option α} {f : α → IS} {r : Fl × Rho × Sg} (e : ex H n (optS o f) ρ σ = some r) (k : ∀ a, o = some a → ex H n (f a) ρ σ = some r → X) : X := by
  cases o with
  | none => exact ex_stk' e
  | some a => exact k a rfl e
theorem ifS_P {b : Bool} {x : IS} {r : Fl × Rho × Sg} (e : ex H n (ifS' b x) ρ σ = some r) (k : b = true → ex H n x ρ σ = some r → X) : X := by
  cases b with
  | false => exact ex_stk' e
  | true => exact k rfl e
theorem elimP {β : Type} {p : β → Prop} {o : Option α} {d : β} {f : α → β} (e : p (o.elim d f)) (k0 : o = none → p d → X) (k1 : ∀ a, o = some a → p (f a) → X) : X := by
  cases o with
  | none => exact k0 rfl e
  | some a => exact k1 a rfl e
theorem name_of {e : Expr} {x : Str} (h : nameOf e = some x) : ∃ p, e = .Name x p := by cases e <;> first | exact deadP h | exact ⟨_, congrArg (fun y => Expr.Name y _) (Option.some.inj h)⟩
theorem tup_of {e : Expr} {l : List Expr} (h : tupE e = some l) : ∃ k p, e = .Tuple l k p := by cases e <;> first | exact deadP h | exact ⟨_, _, congrArg (fun y => Expr.Tuple y _ _) (Option.some.inj h)⟩
theorem str_of {e : Expr} {k : Str} (h : strOf e = some k) : ∃ n p, e = .Constant (.str k) n p := by
  cases e with
  | Constant c n p => cases c <;> first | exact deadP h | exact ⟨_, _, congrArg (fun y => Expr.Constant (.str y) _ _) (Option.some.inj h)⟩
  | _ => exact deadP h
theorem attr_of {e : Expr} {q : Expr × Str × Pos} (h : attrOf e = some q) : e = .Attribute q.1 q.2.1 q.2.2 := by cases e <;> first | exact deadP h | exact smP h fun z => z ▸ rfl
theorem attr_none {e : Expr} (h : attrOf e = none) : ∀ o x p, e ≠ .Attribute o x p := by rintro o x p rfl; exact deadP h.symm
theorem slice_of {e : Expr} {q : Option Expr × Option Expr × Option Expr} (h : sliceOf e = some q) : ∃ p, e = .Slice q.1 q.2.1 q.2.2 p := by cases e <;> first | exact deadP h | exact smP h fun z => by subst z; exact ⟨_, rfl⟩
theorem slice_none {e : Expr} (h : sliceOf e = none) : isSlice e = false := by cases e <;> first | exact deadP h.symm | rfl
theorem comp_of' {l : List Comprehension} {p : Expr × Expr} (h : compOf l = some p) : l = [⟨p.1, p.2, [], 0⟩] :=
  bnd1 h fun g h1 h2 => ifP h2 fun h3 h4 => by
    obtain ⟨a, b, c, d⟩ := g
    have h5 := Bool.and_eq_true_iff.mp h3
    have h6 : c = [] := List.isEmpty_iff.mp h5.1
    have h7 : d = 0 := beq_iff_eq.mp h5.2
    rw [one_of h1, h6, h7, ← Option.some.inj h4]
theorem names_of {e : Expr} {vs : List Str} (h : namesOf e = some vs) (k1 : ∀ x p, e = .Name x p → vs = [x] → X) (k2 : ∀ x y p q k r, x ≠ y → e = .Tuple [.Name x p, .Name y q] k r → vs = [x, y] → X) : X :=
  elimP (p := fun o => o = some vs) h (fun _ h => map1 h fun x h1 h2 => let ⟨p, h3⟩ := name_of h1; k1 x p h3 h2.symm) fun l hl h =>
    bnd1 h fun p h1 h => bnd1 h fun x h2 h => bnd1 h fun y h3 h => ifN h fun hn h4 =>
      let ⟨k, r, h5⟩ := tup_of hl; let ⟨px, h6⟩ := name_of h2; let ⟨py, h7⟩ := name_of h3
      k2 x y px py k r hn (by rw [h5, two_of h1, h6, h7]) (Option.some.inj h4).symm
theorem zip_of {T : Tb} {e : Expr} {q : Expr × Expr} (h : zipOf T e = some q) : ∃ f p, e = .Call f [q.1, q.2] [] p ∧ isName T "zip" (.type "zip") f = true := by
  cases e <;> first | exact deadP h | exact ifP h fun h1 h2 => ⟨_, _, by rw [two_of h2, List.isEmpty_iff.mp (Bool.and_eq_true_iff.mp h1).1], (Bool.and_eq_true_iff.mp h1).2⟩
theorem isName_eq {T : Tb} {x : Str} {u : Value} {f : Expr} (e : isName T x u f = true) : ∃ p, f = .Name x p ∧ T.kind x = some .globalImplicit ∧ T.gl x = some u := by
  unfold isName at e
  cases hf : nameOf f with
  | none => rw [hf] at e; exact nomatch e
  | some y =>
    rw [hf] at e
    refine andP2 (Bool.and_eq_true_iff.mp e) ?_; clear e; intro e e3
    refine andP2 (Bool.and_eq_true_iff.mp e) ?_; clear e; intro e1 e2
    obtain ⟨p, hp⟩ := name_of hf
    refine ⟨p, of_decide_eq_true e1 ▸ hp, of_decide_eq_true e2, ?_⟩
    cases hg : T.gl x with
    | none => rw [hg] at e3; exact nomatch e3
    | some v => rw [hg] at e3; exact congrArg _ (beq_iff_eq.mp e3)
theorem call_of {e : Expr} {q : Expr × Expr × Pos} (h : callOf e = some q) : e = .Call q.1 [q.2.1] [] q.2.2 := by
  cases e <;> first | exact deadP h | exact condO h (fun h1 h2 => map1 h2 fun x h3 h4 => by rw [one_of h3, List.isEmpty_iff.mp h1, ← h4]) (fun _ => deadP)
theorem src_P {T : Tb} {e : Expr} {p : IK × Expr → Prop} (h : p (srcOf T e)) (k0 : p (.seq, e) → X)
    (k1 : ∀ x pf pc, e = .Call (.Name "range" pf) [x] [] pc → T.kind "range" = some .globalImplicit → T.gl "range" = some (.type "range") → p (.range, x) → X)
    (k2 : ∀ x pf pc, e = .Call (.Name "enumerate" pf) [x] [] pc → T.kind "enumerate" = some .globalImplicit → T.gl "enumerate" = some (.type "enumerate") → p (.enum, x) → X) : X :=
  elimP (p := p) h (fun _ => k0) fun q hq h => by
    have hc := call_of hq
    cases h1 : isName T "range" (.type "range") q.1 with
    | true =>
      rw [h1] at h
      obtain ⟨pf, e1, e2, e3⟩ := isName_eq h1
      exact k1 _ pf _ (e1 ▸ hc) e2 e3 h
    | false =>
      rw [h1] at h
      cases h2 : isName T "enumerate" (.type "enumerate") q.1 with
      | true =>
        rw [h2] at h
        obtain ⟨pf, e1, e2, e3⟩ := isName_eq h2
        exact k2 _ pf _ (e1 ▸ hc) e2 e3 h
      | false => rw [h2] at h; exact k0 h
theorem src_np {T : Tb} {iter : Expr} : (srcOf T iter).1 ≠ .pairs := fun h => src_P (p := fun q => q.1 = .pairs) h (fun z => nomatch z) (fun _ _ _ _ _ _ z => nomatch z) (fun _ _ _ _ _ _ z => nomatch z)
end
end
section
structure Room (A : Around) (k : Nat) : Prop where
  hh : A.handled = none
  dp : A.depth + 3 * k + 20 < recursionLimit
  un : A.units + 60 * k + 300 < cLine
structure EnvOk (env : Env) (T : Tb) (P : List Addr) : Prop where
  kf : env.scope.kind = .function
  kind : ∀ x, env.kindOf x = T.kind x
  glob : env.globals = mainGlobals
  bui : env.builtins = builtinsNs
  loc : env.locals ∈ P
  cel : ∀ x a, env.cells.lookup x = some a → a ∈ P ∧ a ≠ env.locals
  inj : ∀ x y a, env.cells.lookup x = some a → env.cells.lookup y = some a → x = y
  has : ∀ x, T.kind x = some .cell ∨ T.kind x = some .free → (env.cells.lookup x).isSome = true
  nd : ∀ (i j : Nat) (x : Str), T.nm[i]? = some (some x) → T.nm[j]? = some (some x) → i = j
noncomputable def Own (env : Env) (a : Addr) : Prop := a = env.locals ∨ ∃ x, env.cells.lookup x = some a
structure Frm (c : Cx) (env : Env) (T : Tb) (P M : List Addr) (h : Heap) (ρ : Rho) : Prop where
  ns : ∃ m, h.Ns env.locals m ∧ ∀ (i : Nat) (x : Str) (d : DV), T.nm[i]? = some (some x) → T.kind x = some .local → ρ[i]? = some (some d) → ∃ v, m x = some v ∧ VR c M P h d v
  cl : ∀ x a, env.cells.lookup x = some a → ∃ u, h.IsCell a u ∧ ∀ (i : Nat) (d : DV), T.nm[i]? = some (some x) → T.kind x = some .cell ∨ T.kind x = some .free → ρ[i]? = some (some d) → ∃ v, u = some v ∧ VR c M P h d v
structure Gok (c : Cx) (gl : Str → Option Value) : Prop where
  ok : ∀ x u, gl x = some u → ∃ mg mb, c.h₀.Ns mainGlobals mg ∧ c.h₀.Ns builtinsNs mb ∧ (mg x = some u ∨ (mg x = none ∧ mb x = some u)) ∧ handedIn u = true
section
variable {c : Cx} {A : Around} {P P' M M' O : List Addr} {σ : Sg} {h h' : Heap} {s : Shared} {env : Env} {T : Tb} {ρ : Rho}
theorem EnvOk.own (E : EnvOk env T P) {a : Addr} (o : Own env a) : a ∈ P := by
  rcases o with rfl | ⟨x, h⟩
  · exact E.loc
  · exact (E.cel x a h).1
theorem Frm.keep (F : Frm c env T P M h ρ) (x : Mono M M' P P' h h') (k : ∀ a, Own env a → ∀ o, h.get? a = some o → h'.get? a = some o) : Frm c env T P' M' h' ρ := by
  obtain ⟨⟨m, h1, h2⟩, h3⟩ := F
  refine ⟨⟨m, h1.at' fun o e => k _ (.inl rfl) o e, fun i y d a b e => ?_⟩, fun y a e => ?_⟩
  · refine exP2 (h2 i y d a b e) ?_; rintro v p q
    exact ⟨v, p, q.mono x⟩
  · refine exP2 (h3 y a e) ?_; rintro u p q
    refine exP2 p ?_; clear p; rintro o ho hd
    refine ⟨u, ⟨o, k a (.inr ⟨y, e⟩) o ho, hd⟩, fun i d a b e => ?_⟩
    refine exP2 (q i d a b e) ?_; rintro v r t
    exact ⟨v, r, t.mono x⟩
theorem Ext.mono0 {M M' : List Addr} {h h' : Heap} (x : Ext [] M M' h h') : Mono M M' P P h h' := x.mono fun _ z => nomatch z
theorem Frm.ext (F : Frm c env T P M h ρ) (E : EnvOk env T P) (S : St c P M σ h) (x : Ext [] M M' h h') : Frm c env T P M' h' ρ :=
  F.keep x.mono0 fun a o ob e => x.keep a ob (S.off a (E.own o)).1 (fun z => nomatch z) e
theorem idx_get : ∀ {l : List (Option Str)} {x : Str} {i : Nat}, idx x l = some i → l[i]? = some (some x)
  | some y :: r, x, i, e => by
    unfold idx at e
    split at e
    · rename_i h; cases e; rw [h]; rfl
    · refine map1 e ?_; clear e; rintro j e1 rfl
      simpa using idx_get e1
  | none :: r, x, i, e => by
    unfold idx at e
    refine map1 e ?_; clear e; rintro j e1 rfl
    simpa using idx_get e1
theorem Tb.var_get {x : Str} {i : Nat} (e : T.var x = some i) : T.nm[i]? = some (some x) ∧ (T.kind x = some .local ∨ T.kind x = some .cell ∨ T.kind x = some .free) := by
  unfold Tb.var at e
  split at e
  · rename_i h
    refine ⟨idx_get e, ?_⟩
    unfold Tb.isVar at h
    split at h
    · exact .inl ‹_›
    · exact .inr (.inl ‹_›)
    · exact .inr (.inr ‹_›)
    · first | exact deadP h | (refine spP h ?_; clear h; rintro rfl rfl) | (refine smP h ?_; clear h; rintro rfl) | cases h
  · exact deadP e
theorem rho_get {i : Nat} {d : DV} (e : ρ.getD i none = some d) : ρ[i]? = some (some d) := by
  rw [List.getD_eq_getElem?_getD] at e
  cases h : ρ[i]? with
  | none => rw [h] at e; cases e
  | some o => rw [h] at e; exact congrArg some e
theorem ld_var {x : Str} {i : Nat} {d : DV} {pos : Pos} {Q : Value → Shared → Prop} {E' : Value → Shared → Prop} (E : EnvOk env T P) (F : Frm c env T P M s.heap ρ) (hx : x ≠ "__debug__" ∧ x ≠ "__classdict__") (hi : T.var x = some i) (hd : ρ.getD i none = some d)
    (q : ∀ v, VR c M P s.heap d v → Q v s) : wpAny c.M A (eval (.Name x pos) env) Q E' s := by
  refine andP2 (Tb.var_get hi) ?_; rintro h1 h2
  have hρ := rho_get hd
  have dbg : (x == ("__debug__" : Str)) = false := by simpa using hx.1
  have cd : (x == ("__classdict__" : Str)) = false := by simpa using hx.2
  refine wpAny_Name ?_ dbg
  rcases h2 with hk | hk | hk
  · refine exP2 F.ns ?_; rintro m hn hm
    refine exP2 (hm i x d h1 hk hρ) ?_; rintro v hv hr
    exact wpAny_loadName_local E.kf ((E.kind x).trans hk) hn hv (q v hr)
  · refine exP1 (Option.isSome_iff_exists.mp (E.has x (.inl hk))) ?_; rintro a ha
    refine exP2 (F.cl x a ha) ?_; rintro u hu hm
    refine exP2 (hm i d h1 (.inl hk) hρ) ?_; rintro v rfl hr
    exact wpAny_loadName_cell E.kf ((E.kind x).trans hk) ha hu (q v hr)
  · refine exP1 (Option.isSome_iff_exists.mp (E.has x (.inr hk))) ?_; rintro a ha
    refine exP2 (F.cl x a ha) ?_; rintro u hu hm
    refine exP2 (hm i d h1 (.inr hk) hρ) ?_; rintro v rfl hr
    exact wpAny_loadName_free E.kf ((E.kind x).trans hk) ha hu (q v hr) cd
theorem ld_glob {x : Str} {u : Value} {pos : Pos} {Q : Value → Shared → Prop} {E' : Value → Shared → Prop} (E : EnvOk env T P) (S : St c P M σ s.heap) (G : Gok c T.gl) (hx : x ≠ "__debug__") (hk : T.kind x = some .globalImplicit) (hg : T.gl x = some u)
    (q : handedIn u = true → Q u s) : wpAny c.M A (eval (.Name x pos) env) Q E' s := by
  have dbg : (x == ("__debug__" : Str)) = false := by simpa using hx
  refine exQ4 (G.ok x u hg) ?_; rintro mg mb h1 h2 h3 h5
  refine Calls.Name_function_global E.kf ((E.kind x).trans hk) ?_ dbg
  have g1 : s.heap.Ns env.globals mg := by rw [E.glob]; exact h1.keeps S.base
  have g2 : s.heap.Ns env.builtins mb := by rw [E.bui]; exact h2.keeps S.base
  rcases h3 with h3 | ⟨h3, h4⟩
  · exact Calls.loadGlobal_global g1 h3 (q h5)
  · exact Calls.loadGlobal_builtin g1 h3 g2 h4 (q h5)
noncomputable def OwnV (env : Env) (T : Tb) (O : List Addr) (x : Str) : Prop := (T.kind x = some .local ∧ env.locals ∈ O) ∨ (∀ a, Own env a → a ∈ O)
theorem own_turn {a : Addr} (E : EnvOk env T P) (S : St c P M σ h) (o : Own env a) (hs : Heap.SameBut a h h') (hl : ∃ ob, h'.get? a = some ob) (hO : a ∈ O) (hP : ∀ a ∈ O, a ∈ P) :
    St c P M σ h' ∧ Ext O M M h h' ∧ Mono M M P P h h' := by
  have haP := E.own o
  have x : Ext [a] M M h h' := ⟨List.prefix_refl _, fun _ z => .inl z, fun _ z _ => z, fun b ob h1 h2 e => (hs.2 b (by simpa using h2)).trans e⟩
  have hin : ∀ b ∈ [a], b ∈ P := fun b hb => by rw [List.mem_singleton.mp hb]; exact haP
  refine ⟨S.own x hin (fun b hb ob e => (hs.2 b fun z => (S.off a haP).1 (z ▸ hb)).trans e) (fun b hb => by rw [List.mem_singleton.mp hb]; exact hl), ?_, x.mono hin⟩
  exact ⟨List.prefix_refl _, fun _ z => .inl z, fun _ z _ => z, fun b ob h1 h2 e => (hs.2 b fun z => h2 (z ▸ hO)).trans e⟩
theorem st_var {x : Str} {i : Nat} {d : DV} {v : Value} {Q : Unit → Shared → Prop} {E' : Value → Shared → Prop} (E : EnvOk env T P) (S : St c P M σ s.heap) (F : Frm c env T P M s.heap ρ) (hi : T.var x = some i) (hl : i < ρ.length)
    (hO : OwnV env T O x) (hP : ∀ a ∈ O, a ∈ P) (hv : VR c M P s.heap d v)
    (q : ∀ h' tk, St c P M σ h' → Ext O M M s.heap h' → Frm c env T P M h' (ρ.set i (some d)) → Q () { s with heap := h', toks := tk }) : wpAny c.M A (storeName env x v) Q E' s := by
  refine andP2 (Tb.var_get hi) ?_; rintro h1 h2
  have pk : (env.scope.kind == .class || (env.scope.kind == .module && env.locals != env.globals)) = false := by rw [E.kf]; rfl
  have get : ∀ {j : Nat} {y : Str} {e : DV}, T.nm[j]? = some (some y) → (ρ.set i (some d))[j]? = some (some e) → (y = x ∧ e = d) ∨ (y ≠ x ∧ ρ[j]? = some (some e)) := fun {j y e} hj he => by
    by_cases hij : i = j
    · subst hij
      rw [h1] at hj
      rw [List.getElem?_set_self hl] at he
      cases hj; cases he
      exact .inl ⟨rfl, rfl⟩
    · refine .inr ⟨fun z => ?_, by rwa [List.getElem?_set_ne hij] at he⟩
      subst z
      exact hij (E.nd _ _ _ h1 hj)
  rcases h2 with hk | hk
  · refine exP2 F.ns ?_; rintro m hn hm
    refine wpAny_storeName_local ((E.kind x).trans hk) hn (fun h' hn' hs => ?_) pk
    obtain ⟨S', X, mo⟩ := own_turn (O := O) E S (.inl rfl) hs (let ⟨o, es, ep, e, _⟩ := hn'; ⟨o, e⟩) (hO.elim (·.2) fun z => z _ (.inl rfl)) hP
    refine q h' _ S' X ⟨⟨_, hn', fun j y e a b r => ?_⟩, fun y a ha => ?_⟩
    · rcases get a r with ⟨rfl, rfl⟩ | ⟨hy, r⟩
      · exact ⟨v, by simp, hv.mono mo⟩
      · refine exP2 (hm j y e a b r) ?_; rintro u p t
        exact ⟨u, by simp [hy, p], t.mono mo⟩
    · refine exP2 (F.cl y a ha) ?_; rintro u p t
      refine ⟨u, p.sameBut hs (E.cel y a ha).2, fun j e a' b r => ?_⟩
      rcases get a' r with ⟨rfl, rfl⟩ | ⟨hy, r⟩
      · rcases b with b | b <;> (rw [hk] at b; cases b)
      · refine exP2 (t j e a' b r) ?_; rintro w p' t'
        exact ⟨w, p', t'.mono mo⟩
  · have hk' : T.kind x = some .cell ∨ T.kind x = some .free := hk
    refine exP1 (Option.isSome_iff_exists.mp (E.has x hk')) ?_; rintro a ha
    refine exP2 (F.cl x a ha) ?_; rintro u hu hm
    have fin : ∀ h' : Heap, h'.IsCell a (some v) → Heap.SameBut a s.heap h' → Q () { s with heap := h' } := fun h' hc hs => by
      obtain ⟨S', X, mo⟩ := own_turn (O := O) E S (.inr ⟨x, ha⟩) hs (let ⟨o, e, _⟩ := hc; ⟨o, e⟩) (hO.elim (fun z => by rcases hk with k | k <;> (rw [k] at z; cases z.1)) fun z => z _ (.inr ⟨x, ha⟩)) hP
      refine q h' s.toks S' X ⟨?_, fun y b hb => ?_⟩
      · refine exP2 F.ns ?_; rintro m hn hm
        refine ⟨m, hn.at' fun o e => (hs.2 _ (Ne.symm (E.cel x a ha).2)).trans e, fun j y e a' b r => ?_⟩
        rcases get a' r with ⟨rfl, rfl⟩ | ⟨hy, r⟩
        · rcases hk with hk | hk <;> (rw [hk] at b; cases b)
        · refine exP2 (hm j y e a' b r) ?_; rintro w p' t'
          exact ⟨w, p', t'.mono mo⟩
      · by_cases hyx : y = x
        · subst hyx
          rw [ha] at hb; cases hb
          refine ⟨some v, hc, fun j e a' _ r => ?_⟩
          rcases get a' r with ⟨_, rfl⟩ | ⟨hy, _⟩
          · exact ⟨v, rfl, hv.mono mo⟩
          · exact absurd rfl hy
        · refine exP2 (F.cl y b hb) ?_; rintro w p t
          refine ⟨w, p.sameBut hs (fun z => hyx (E.inj y x a (z ▸ hb) ha)), fun j e a' b' r => ?_⟩
          rcases get a' r with ⟨rfl, rfl⟩ | ⟨hy, r⟩
          · exact absurd rfl hyx
          · refine exP2 (t j e a' b' r) ?_; rintro w' p' t'
            exact ⟨w', p', t'.mono mo⟩
    unfold storeName
    rcases hk with hk | hk <;> (
      simp only [(E.kind x).trans hk, E.kf]
      exact wpAny_bind (wpAny_cellOf ha (wpAny_cellSet hu fin)))
end
end
section
structure Go (c : Cx) (O P M : List Addr) (s : Shared) (M' : List Addr) (σ' : Sg) (s' : Shared) : Prop where
  st : St c P M' σ' s'.heap
  ex : Ext O M M' s.heap s'.heap
  gn : s'.gens = s.gens
  os : s'.os = s.os
section
variable {c : Cx} {A : Around} {P P' M M₁ M₂ O : List Addr} {σ σ' σ₁ σ₂ : Sg} {h h' : Heap} {s s₁ s₂ : Shared} {env : Env} {T : Tb} {ρ : Rho} {d d₁ d₂ : DV}
theorem Go.refl (S : St c P M σ s.heap) {tk : Tok} : Go c O P M s M σ { s with toks := tk } := ⟨S, Ext.refl, rfl, rfl⟩
theorem Go.self (S : St c P M σ s.heap) : Go c O P M s M σ s := ⟨S, Ext.refl, rfl, rfl⟩
theorem Go.trans (x : Go c O P M s M₁ σ₁ s₁) (y : Go c O P M₁ s₁ M₂ σ₂ s₂) : Go c O P M s M₂ σ₂ s₂ := ⟨y.st, x.ex.trans y.ex, y.gn.trans x.gn, y.os.trans x.os⟩
theorem Go.keep (S : St c P M σ s.heap) (k : Keep s.heap h') {tk : Tok} : Go c O P M s M σ { s with heap := h', toks := tk } := ⟨S.keeps k, Ext.of_keep k, rfl, rfl⟩
theorem Go.own {O : List Addr} (x : Go c [] P M s M₁ σ₁ s₁) (hO : ∀ a ∈ O, a ∈ P) : Go c O P M s M₁ σ₁ s₁ :=
  ⟨x.st, x.ex.own fun a ha => (x.st.off a (hO a ha)).1, x.gn, x.os⟩
theorem Ev.of (g : Go c O P M s M₁ σ₁ s₁) {v : Value} (r : VR c M₁ P s₁.heap d v) : Ev c O P M s σ₁ d v s₁ := ⟨M₁, g.st, g.ex, r, g.gn, g.os⟩
theorem Ev.to {v : Value} (e : Ev c O P M s σ₁ d v s₁) : ∃ M₁, Go c O P M s M₁ σ₁ s₁ ∧ VR c M₁ P s₁.heap d v := let ⟨M₁, a, b, r, x, y⟩ := e; ⟨M₁, ⟨a, b, x, y⟩, r⟩
theorem Ev.pre {v : Value} (g : Go c O P M s M₁ σ₁ s₁) (e : Ev c O P M₁ s₁ σ₂ d v s₂) : Ev c O P M s σ₂ d v s₂ := by
  refine exP2 e.to ?_; rintro M₂ g₂ r
  exact .of (g.trans g₂) r
theorem Ev.here (S : St c P M σ s.heap) {v : Value} (r : VR c M P s.heap d v) {tk : Tok} : Ev c O P M s σ d v { s with toks := tk } := .of (Go.refl S) r
theorem Ev.here' (S : St c P M σ s.heap) {v : Value} (r : VR c M P s.heap d v) : Ev c O P M s σ d v s := .of (Go.self S) r
protected theorem W.operate {M : Model} {vs : List Value} {m : Sem Value} {Q : Value → Shared → Prop} (h : W M A m Q s) : W M A (operate vs m) Q s := by
  unfold operate
  exact .bind (.holding (h.mono fun r s' hr => .leaf (wpAny_release' (.pure hr))))
protected theorem W.ite {M : Model} {α : Type} {b : Bool} {x y : Sem α} {Q : α → Shared → Prop} (h : W M A (bif b then x else y) Q s) : W M A (if b = true then x else y) Q s := by
  cases b <;> exact h
protected theorem W.truthy {M : Model} {b : Bool} {v : Value} {m : List Addr} {Q : Bool → Shared → Prop} (r : VR c m P s.heap (.bool b) v) (h : Q b s) : W M A (truthy v) Q s := by
  cases (show v = _ from r)
  exact .of (wpAny_truthy_bool h)
theorem asB_eq {d : DV} {b : Bool} (e : asB d = some b) : d = .bool b := boolD_eq e
theorem s_const {k : Const} {n : Nat} {pos : Pos} (S : St c P M σ s.heap) {H : Hd} {f : Nat} (e : ev H f (trC k) ρ σ = some (d, σ')) : W c.M A (eval (.Constant k n pos) env) (Ev c [] P M s σ' d) s := by
  cases f with
  | zero => cases e
  | succ f =>
    cases k with
    | none => cases e; exact .of (wpAny_pure (.here' S (by unfold VR; rfl)))
    | bool b => cases e; exact .of (wpAny_pure (.here' S (by unfold VR; rfl)))
    | int i => cases e; exact .of (wpAny_mkInt (.here S (by unfold VR; exact ⟨_, rfl⟩)))
    | str x => cases e; exact .of (wpAny_mkText (.here S (by unfold VR; exact ⟨_, rfl⟩)))
    | bytes b => cases e; exact .of (wpAny_mkTextBytes (.here S (by unfold VR; exact ⟨_, rfl⟩)))
    | _ => cases e
noncomputable abbrev ES (c : Cx) (A : Around) (env : Env) (T : Tb) (H : Hd) (n m : Nat) : Prop :=
  ∀ (e : Expr) (ρ : Rho) (σ : Sg) (d : DV) (σ' : Sg), ev H n (tr m T e) ρ σ = some (d, σ') → ∀ (P M : List Addr) (s : Shared), EnvOk env T P → St c P M σ s.heap → Frm c env T P M s.heap ρ → W c.M A (eval e env) (Ev c [] P M s σ' d) s
noncomputable abbrev TS (c : Cx) (A : Around) (env : Env) (T : Tb) (H : Hd) (n m : Nat) : Prop :=
  ∀ (e : Expr) (ρ : Rho) (σ : Sg) (b : Bool) (σ' : Sg), ev H n (tr m T e) ρ σ = some (.bool b, σ') → ∀ (P M : List Addr) (s : Shared), EnvOk env T P → St c P M σ s.heap → Frm c env T P M s.heap ρ →
    W c.M A (isTrue e env (eval e env)) (fun t s' => t = b ∧ ∃ M', Go c [] P M s M' σ' s') s
variable {H : Hd} {n m : Nat}
theorem ES.go (ih : ES c A env T H n m) {α : Type} {k : Value → Sem α} {Q : α → Shared → Prop} {e : Expr} (e1 : ev H n (tr m T e) ρ σ = some (d, σ₁)) (E : EnvOk env T P) (S : St c P M σ s.heap) (F : Frm c env T P M s.heap ρ)
    (q : ∀ v s₁ M₁, Go c [] P M s M₁ σ₁ s₁ → VR c M₁ P s₁.heap d v → W c.M A (k v) Q s₁) : W c.M A (eval e env >>= k) Q s :=
  .bind ((ih e ρ σ _ _ e1 P M s E S F).mono fun v s₁ h => exP2 h.to fun M₁ g r => q v s₁ M₁ g r)
theorem ES.goH (ih : ES c A env T H n m) {α : Type} {k : Value → Sem α} {Q : α → Shared → Prop} {e : Expr} {vs : List Value} (e1 : ev H n (tr m T e) ρ σ = some (d, σ₁)) (E : EnvOk env T P) (S : St c P M σ s.heap) (F : Frm c env T P M s.heap ρ)
    (q : ∀ v s₁ M₁, Go c [] P M s M₁ σ₁ s₁ → VR c M₁ P s₁.heap d v → W c.M A (k v) Q s₁) : W c.M A (holding vs (eval e env) >>= k) Q s :=
  .bind (.holding ((ih e ρ σ _ _ e1 P M s E S F).mono fun v s₁ h => exP2 h.to fun M₁ g r => q v s₁ M₁ g r))
theorem TS.go (ih : TS c A env T H n m) {α : Type} {k : Bool → Sem α} {Q : α → Shared → Prop} {e : Expr} {b : Bool} (e1 : ev H n (tr m T e) ρ σ = some (.bool b, σ₁)) (E : EnvOk env T P) (S : St c P M σ s.heap) (F : Frm c env T P M s.heap ρ)
    (q : ∀ s₁ M₁, Go c [] P M s M₁ σ₁ s₁ → W c.M A (k b) Q s₁) : W c.M A (isTrue e env (eval e env) >>= k) Q s :=
  .bind ((ih e ρ σ _ _ e1 P M s E S F).mono fun v s₁ h => exP1 h.2 fun M₁ g => by rw [h.1]; exact q s₁ M₁ g)
theorem tr_not_set {e : Expr} {p : DV × Sg} (h : ev H n (tr m T e) ρ σ = some p) : ∀ l k q, e ≠ .Set l k q := by
  rintro l k q rfl
  cases n with
  | zero => cases h
  | succ n => cases m <;> cases h
theorem tr_not_star {e : Expr} {p : DV × Sg} (h : ev H n (tr m T e) ρ σ = some p) : ∀ x q, e ≠ .Starred x q := by
  rintro x q rfl
  cases n with
  | zero => cases h
  | succ n => cases m <;> cases h
theorem mark_eq {op : CmpOp} {b : Expr} {t : Sem Value} (hb : ∀ l k q, b ≠ .Set l k q) : markedBehindIn op b t = t := by
  have : behindInMarks op b = false := by
    cases b <;> first | exact rfl | exact absurd rfl (hb _ _ _)
  unfold markedBehindIn
  rw [this]
theorem s_bin (ih : ES c A env T H n m) (E : EnvOk env T P) {mm : Bool} {op : Operator} {a b : Expr} {pos : Pos} (e : ev H (n + 1) (.bin mm op (tr m T a) (tr m T b)) ρ σ = some (d, σ')) (S : St c P M σ s.heap) (F : Frm c env T P M s.heap ρ) :
    W c.M A (eval (.BinOp a op b pos) env) (Ev c [] P M s σ' d) s := by
  refine bndP e ?_; clear e; rintro d₁ σ₁ e1 e
  refine bndP e ?_; clear e; rintro d₂ σ₂ e2 e
  refine bnd1 e ?_; clear e; rintro d₃ e3 e4
  show W _ _ (eval a env >>= fun v => holding [v] (eval b env) >>= fun u => standAt pos >>= fun _ => operate [v, u] (binaryOp op v u)) _ _
  refine .bind ((ih a ρ σ _ _ e1 P M s E S F).mono fun v s₁ h₁ => ?_)
  refine exP2 h₁.to ?_; rintro M₁ g₁ r₁
  refine .bind (.holding ((ih b ρ _ _ _ e2 P M₁ s₁ E g₁.st (F.ext E S g₁.ex)).mono fun u s₂ h₂ => ?_))
  refine exP2 h₂.to ?_; rintro M₂ g₂ r₂
  refine .bind (.standAt (.operate (.of (binV_sound g₂.st e3 (r₁.mono g₂.ex.mono0) r₂ fun w h' tk k md => ?_))))
  exact .pre (g₁.trans g₂) (Made.fin g₂.st k md e4)
theorem s_neg (ih : ES c A env T H n m) (E : EnvOk env T P) {a : Expr} {pos : Pos} (e : ev H (n + 1) (.neg (tr m T a)) ρ σ = some (d, σ')) (S : St c P M σ s.heap) (F : Frm c env T P M s.heap ρ) :
    W c.M A (eval (.UnaryOp .USub a pos) env) (Ev c [] P M s σ' d) s := by
  refine bndP e ?_; clear e; rintro d₁ σ₁ e1 e
  refine bnd1 e ?_; clear e; intro i h e
  cases intD_eq h; cases e
  show W _ _ (eval a env >>= fun v => standAt pos >>= fun _ => holding [v] (unaryOp .USub v)) _ _
  refine .bind ((ih a ρ σ _ _ e1 P M s E S F).mono fun v s₁ h₁ => ?_)
  obtain ⟨M₁, g₁, t, rfl⟩ := h₁.to
  exact .bind (.standAt (.holding (.of (neg_int (.pre g₁ (.here (d := .int _) g₁.st ⟨_, rfl⟩))))))
theorem s_not (ih : ES c A env T H n m) (E : EnvOk env T P) {a : Expr} {pos : Pos} (e : ev H (n + 1) (.not (tr m T a)) ρ σ = some (d, σ')) (S : St c P M σ s.heap) (F : Frm c env T P M s.heap ρ) :
    W c.M A (eval (.UnaryOp .Not a pos) env) (Ev c [] P M s σ' d) s := by
  refine bndP e ?_; clear e; rintro d₁ σ₁ e1 e
  refine bnd1 e ?_; clear e; rintro b e2 e
  first | exact deadP e | (refine spP e ?_; clear e; rintro rfl rfl) | (refine smP e ?_; clear e; rintro rfl) | cases e
  show W _ _ (eval a env >>= fun v => standAt pos >>= fun _ => holding [v] (unaryOp .Not v)) _ _
  refine .bind ((ih a ρ σ _ _ e1 P M s E S F).mono fun v s₁ h₁ => ?_)
  refine exP2 h₁.to ?_; rintro M₁ g₁ r₁
  cases asB_eq e2
  cases (show v = _ from r₁)
  exact .bind (.standAt (.holding (.of fun _ _ _ => .pre g₁ (.here' g₁.st rfl))))
theorem t_not (ih : TS c A env T H n m) (E : EnvOk env T P) {a : Expr} {pos : Pos} {b : Bool} (e : ev H (n + 1) (.not (tr m T a)) ρ σ = some (.bool b, σ')) (S : St c P M σ s.heap) (F : Frm c env T P M s.heap ρ) {whole : Sem Value} :
    W c.M A (isTrue (.UnaryOp .Not a pos) env whole) (fun t s' => t = b ∧ ∃ M', Go c [] P M s M' σ' s') s := by
  refine bndP e ?_; clear e; rintro d₁ σ₁ e1 e
  refine bnd1 e ?_; clear e; rintro b' e2 e
  cases asB_eq e2
  first | exact deadP e | (refine spP e ?_; clear e; rintro rfl rfl) | (refine smP e ?_; clear e; rintro rfl) | cases e
  show W _ _ (isTrue a env (eval a env) >>= fun t => pure (!t)) _ _
  refine .bind ((ih a ρ σ _ _ e1 P M s E S F).mono fun v s₁ h₁ => ?_)
  refine andP2 h₁ ?_; clear h₁; rintro rfl h
  exact .pure ⟨rfl, h⟩
theorem s_cmp (ih : ES c A env T H n m) (E : EnvOk env T P) {k : Nat} (R : Room A k) {op : CmpOp} {a b : Expr} {pos : Pos} (e : ev H (n + 1) (.cmp op (tr m T a) (tr m T b)) ρ σ = some (d, σ')) (S : St c P M σ s.heap) (F : Frm c env T P M s.heap ρ) :
    W c.M A (eval (.Compare a [op] [b] pos) env) (Ev c [] P M s σ' d) s := by
  refine bndP e ?_; clear e; rintro d₁ σ₁ e1 e
  refine bndP e ?_; clear e; rintro d₂ σ₂ e2 e
  refine bnd1 e ?_; clear e; rintro d₃ e3 e4
  first | exact deadP e4 | (refine spP e4 ?_; clear e4; rintro rfl rfl) | (refine smP e4 ?_; clear e4; rintro rfl) | cases e4
  have hb := tr_not_set e2
  show W _ _ (eval a env >>= fun v => holding [v] (markedBehindIn op b (eval b env)) >>= fun u => standAt pos >>= fun _ => operate [v, u] (compareOp op v u)) _ _
  rw [mark_eq hb]
  refine .bind ((ih a ρ σ _ _ e1 P M s E S F).mono fun v s₁ h₁ => ?_)
  refine exP2 h₁.to ?_; rintro M₁ g₁ r₁
  refine .bind (.holding ((ih b ρ _ _ _ e2 P M₁ s₁ E g₁.st (F.ext E S g₁.ex)).mono fun u s₂ h₂ => ?_))
  refine exP2 h₂.to ?_; rintro M₂ g₂ r₂
  refine .bind (.standAt (.operate (.of (cmpV_sound g₂.st (by have := R.un; lia) e3 (r₁.mono g₂.ex.mono0) r₂ fun w h' tk k r => ?_))))
  exact .pre (g₁.trans g₂) (.of (Go.keep g₂.st k) r)
theorem t_cmp (ih : ES c A env T H n m) (E : EnvOk env T P) {k : Nat} (R : Room A k) {op : CmpOp} {a b : Expr} {pos : Pos} {t : Bool} (e : ev H (n + 1) (.cmp op (tr m T a) (tr m T b)) ρ σ = some (.bool t, σ')) (S : St c P M σ s.heap) (F : Frm c env T P M s.heap ρ) {whole : Sem Value} :
    W c.M A (isTrue (.Compare a [op] [b] pos) env whole) (fun u s' => u = t ∧ ∃ M', Go c [] P M s M' σ' s') s := by
  refine bndP e ?_; clear e; rintro d₁ σ₁ e1 e
  refine bndP e ?_; clear e; rintro d₂ σ₂ e2 e
  refine bnd1 e ?_; clear e; rintro d₃ e3 e4
  first | exact deadP e4 | (refine spP e4 ?_; clear e4; rintro rfl rfl) | (refine smP e4 ?_; clear e4; rintro rfl) | cases e4
  have hb := tr_not_set e2
  show W _ _ (eval a env >>= fun v => holding [v] (markedBehindIn op b (eval b env)) >>= fun u => standAt pos >>= fun _ => operate [v, u] (compareOp op v u) >>= fun q => holding [q] (truthy q)) _ _
  rw [mark_eq hb]
  refine .bind ((ih a ρ σ _ _ e1 P M s E S F).mono fun v s₁ h₁ => ?_)
  refine exP2 h₁.to ?_; rintro M₁ g₁ r₁
  refine .bind (.holding ((ih b ρ _ _ _ e2 P M₁ s₁ E g₁.st (F.ext E S g₁.ex)).mono fun u s₂ h₂ => ?_))
  refine exP2 h₂.to ?_; rintro M₂ g₂ r₂
  refine .bind (.standAt (.bind (.operate (.of (cmpV_sound g₂.st (by have := R.un; lia) e3 (r₁.mono g₂.ex.mono0) r₂ fun w h' tk k r => ?_)))))
  exact .holding (.truthy r ⟨rfl, M₂, (g₁.trans g₂).trans (Go.keep g₂.st k)⟩)
theorem s_and (ih : ES c A env T H n m) (E : EnvOk env T P) {a b : Expr} {pos : Pos} (e : ev H (n + 1) (.and (tr m T a) (tr m T b)) ρ σ = some (d, σ')) (S : St c P M σ s.heap) (F : Frm c env T P M s.heap ρ) :
    W c.M A (eval (.BoolOp .And [a, b] pos) env) (Ev c [] P M s σ' d) s := by
  refine bndP e ?_; clear e; rintro d₁ σ₁ e1 e
  refine bnd1 e ?_; clear e; rintro t e2 e
  cases asB_eq e2
  show W _ _ (eval a env >>= fun v => standAt pos >>= fun _ => holding [v] (truthy v) >>= fun t => match BoolOp.And, t with | .And, false | .Or, true => pure v | _, _ => eval b env) _ _
  refine .bind ((ih a ρ σ _ _ e1 P M s E S F).mono fun v s₁ h₁ => ?_)
  refine exP2 h₁.to ?_; rintro M₁ g₁ r₁
  refine .bind (.standAt (.bind (.holding (.truthy r₁ ?_))))
  cases t with
  | false => cases e; exact .pure h₁
  | true =>
    refine bndP e ?_; clear e; rintro d₂ σ₂ e3 e
    refine bnd1 e ?_; clear e; rintro u e4 e
    cases asB_eq e4
    first | exact deadP e | (refine spP e ?_; clear e; rintro rfl rfl) | (refine smP e ?_; clear e; rintro rfl) | cases e
    exact (ih b ρ _ _ _ e3 P M₁ s₁ E g₁.st (F.ext E S g₁.ex)).mono fun u s₂ h₂ => .pre g₁ h₂
theorem s_or (ih : ES c A env T H n m) (E : EnvOk env T P) {a b : Expr} {pos : Pos} (e : ev H (n + 1) (.or (tr m T a) (tr m T b)) ρ σ = some (d, σ')) (S : St c P M σ s.heap) (F : Frm c env T P M s.heap ρ) :
    W c.M A (eval (.BoolOp .Or [a, b] pos) env) (Ev c [] P M s σ' d) s := by
  refine bndP e ?_; clear e; rintro d₁ σ₁ e1 e
  refine bnd1 e ?_; clear e; rintro t e2 e
  cases asB_eq e2
  show W _ _ (eval a env >>= fun v => standAt pos >>= fun _ => holding [v] (truthy v) >>= fun t => match BoolOp.Or, t with | .And, false | .Or, true => pure v | _, _ => eval b env) _ _
  refine .bind ((ih a ρ σ _ _ e1 P M s E S F).mono fun v s₁ h₁ => ?_)
  refine exP2 h₁.to ?_; rintro M₁ g₁ r₁
  refine .bind (.standAt (.bind (.holding (.truthy r₁ ?_))))
  cases t with
  | true => cases e; exact .pure h₁
  | false =>
    refine bndP e ?_; clear e; rintro d₂ σ₂ e3 e
    refine bnd1 e ?_; clear e; rintro u e4 e
    cases asB_eq e4
    first | exact deadP e | (refine spP e ?_; clear e; rintro rfl rfl) | (refine smP e ?_; clear e; rintro rfl) | cases e
    exact (ih b ρ _ _ _ e3 P M₁ s₁ E g₁.st (F.ext E S g₁.ex)).mono fun u s₂ h₂ => .pre g₁ h₂
theorem t_and (ih : TS c A env T H n m) (E : EnvOk env T P) {a b : Expr} {pos : Pos} {r : Bool} (e : ev H (n + 1) (.and (tr m T a) (tr m T b)) ρ σ = some (.bool r, σ')) (S : St c P M σ s.heap) (F : Frm c env T P M s.heap ρ) {whole : Sem Value} :
    W c.M A (isTrue (.BoolOp .And [a, b] pos) env whole) (fun t s' => t = r ∧ ∃ M', Go c [] P M s M' σ' s') s := by
  refine bndP e ?_; clear e; rintro d₁ σ₁ e1 e
  refine bnd1 e ?_; clear e; rintro t e2 e
  cases asB_eq e2
  show W _ _ (isTrue a env (eval a env) >>= fun t => match BoolOp.And, t with | .And, false => pure false | .Or, true => pure true | _, _ => (isTrue b env (eval b env) >>= fun t => match BoolOp.And, t with | .And, false => pure false | .Or, true => pure true | _, _ => pure true)) _ _
  refine .bind ((ih a ρ σ _ _ e1 P M s E S F).mono fun v s₁ h₁ => ?_)
  obtain ⟨rfl, M₁, g₁⟩ := h₁
  cases v with
  | false => cases e; exact .pure ⟨rfl, M₁, g₁⟩
  | true =>
    refine bndP e ?_; clear e; rintro d₂ σ₂ e3 e
    refine bnd1 e ?_; clear e; rintro u e4 e
    cases asB_eq e4
    first | exact deadP e | (refine spP e ?_; clear e; rintro rfl rfl) | (refine smP e ?_; clear e; rintro rfl) | cases e
    refine .bind ((ih b ρ _ _ _ e3 P M₁ s₁ E g₁.st (F.ext E S g₁.ex)).mono fun v s₂ h₂ => ?_)
    obtain ⟨rfl, M₂, g₂⟩ := h₂
    cases v <;> exact .pure ⟨rfl, M₂, g₁.trans g₂⟩
theorem t_or (ih : TS c A env T H n m) (E : EnvOk env T P) {a b : Expr} {pos : Pos} {r : Bool} (e : ev H (n + 1) (.or (tr m T a) (tr m T b)) ρ σ = some (.bool r, σ')) (S : St c P M σ s.heap) (F : Frm c env T P M s.heap ρ) {whole : Sem Value} :
    W c.M A (isTrue (.BoolOp .Or [a, b] pos) env whole) (fun t s' => t = r ∧ ∃ M', Go c [] P M s M' σ' s') s := by
  refine bndP e ?_; clear e; rintro d₁ σ₁ e1 e
  refine bnd1 e ?_; clear e; rintro t e2 e
  cases asB_eq e2
  show W _ _ (isTrue a env (eval a env) >>= fun t => match BoolOp.Or, t with | .And, false => pure false | .Or, true => pure true | _, _ => (isTrue b env (eval b env) >>= fun t => match BoolOp.Or, t with | .And, false => pure false | .Or, true => pure true | _, _ => pure false)) _ _
  refine .bind ((ih a ρ σ _ _ e1 P M s E S F).mono fun v s₁ h₁ => ?_)
  obtain ⟨rfl, M₁, g₁⟩ := h₁
  cases v with
  | true => cases e; exact .pure ⟨rfl, M₁, g₁⟩
  | false =>
    refine bndP e ?_; clear e; rintro d₂ σ₂ e3 e
    refine bnd1 e ?_; clear e; rintro u e4 e
    cases asB_eq e4
    first | exact deadP e | (refine spP e ?_; clear e; rintro rfl rfl) | (refine smP e ?_; clear e; rintro rfl) | cases e
    refine .bind ((ih b ρ _ _ _ e3 P M₁ s₁ E g₁.st (F.ext E S g₁.ex)).mono fun v s₂ h₂ => ?_)
    obtain ⟨rfl, M₂, g₂⟩ := h₂
    cases v <;> exact .pure ⟨rfl, M₂, g₁.trans g₂⟩
theorem s_ite (ih : ES c A env T H n m) (it : TS c A env T H n m) (E : EnvOk env T P) {q a b : Expr} {pos : Pos} (e : ev H (n + 1) (.ite (tr m T q) (tr m T a) (tr m T b)) ρ σ = some (d, σ')) (S : St c P M σ s.heap) (F : Frm c env T P M s.heap ρ) :
    W c.M A (eval (.IfExp q a b pos) env) (Ev c [] P M s σ' d) s := by
  refine bndP e ?_; clear e; rintro d₁ σ₁ e1 e
  refine bnd1 e ?_; clear e; rintro t e2 e
  cases asB_eq e2
  show W _ _ (isTrue q env (eval q env) >>= fun t => if t = true then eval a env else eval b env) _ _
  refine .bind ((it q ρ σ _ _ e1 P M s E S F).mono fun v s₁ h₁ => ?_)
  obtain ⟨rfl, M₁, g₁⟩ := h₁
  refine .ite ?_
  cases v with
  | true => exact (ih a ρ _ _ _ e P M₁ s₁ E g₁.st (F.ext E S g₁.ex)).mono fun u s₂ h₂ => .pre g₁ h₂
  | false => exact (ih b ρ _ _ _ e P M₁ s₁ E g₁.st (F.ext E S g₁.ex)).mono fun u s₂ h₂ => .pre g₁ h₂
theorem t_ite (it : TS c A env T H n m) (E : EnvOk env T P) {q a b : Expr} {pos : Pos} {r : Bool} (e : ev H (n + 1) (.ite (tr m T q) (tr m T a) (tr m T b)) ρ σ = some (.bool r, σ')) (S : St c P M σ s.heap) (F : Frm c env T P M s.heap ρ) {whole : Sem Value} :
    W c.M A (isTrue (.IfExp q a b pos) env whole) (fun t s' => t = r ∧ ∃ M', Go c [] P M s M' σ' s') s := by
  refine bndP e ?_; clear e; rintro d₁ σ₁ e1 e
  refine bnd1 e ?_; clear e; rintro t e2 e
  cases asB_eq e2
  show W _ _ (isTrue q env (eval q env) >>= fun t => if t = true then isTrue a env (eval a env) else isTrue b env (eval b env)) _ _
  refine .bind ((it q ρ σ _ _ e1 P M s E S F).mono fun v s₁ h₁ => ?_)
  obtain ⟨rfl, M₁, g₁⟩ := h₁
  refine .ite ?_
  cases v with
  | true => exact (it a ρ _ _ _ e P M₁ s₁ E g₁.st (F.ext E S g₁.ex)).mono fun u s₂ h₂ => let ⟨h, M₂, g₂⟩ := h₂; ⟨h, M₂, g₁.trans g₂⟩
  | false => exact (it b ρ _ _ _ e P M₁ s₁ E g₁.st (F.ext E S g₁.ex)).mono fun u s₂ h₂ => let ⟨h, M₂, g₂⟩ := h₂; ⟨h, M₂, g₁.trans g₂⟩
theorem t_value (ih : ES c A env T H n m) (E : EnvOk env T P) {q : Expr} {r : Bool} (e : ev H n (tr m T q) ρ σ = some (.bool r, σ')) (S : St c P M σ s.heap) (F : Frm c env T P M s.heap ρ)
    (he : isTrue q env (eval q env) = (eval q env >>= fun v => standAt q.pos >>= fun _ => holding [v] (truthy v))) :
    W c.M A (isTrue q env (eval q env)) (fun t s' => t = r ∧ ∃ M', Go c [] P M s M' σ' s') s := by
  rw [he]
  refine .bind ((ih q ρ σ _ _ e P M s E S F).mono fun v s₁ h₁ => ?_)
  refine exP2 h₁.to ?_; rintro M₁ g₁ r₁
  exact .bind (.standAt (.holding (.truthy r₁ ⟨rfl, M₁, g₁⟩)))
noncomputable def EvL (c : Cx) (O P M : List Addr) (s : Shared) (σ : Sg) (ds : List DV) (vs : List Value) (s' : Shared) : Prop := ∃ M', Go c O P M s M' σ s' ∧ VRs c M' P s'.heap ds vs
theorem star_eq {e : Expr} {rest : List Expr} (h : ∀ x q, e ≠ .Starred x q) : starEach (e :: rest) env = (false, eval e env) :: starEach rest env := by
  cases e <;> first | rfl | exact absurd rfl (h _ _)
theorem s_args (ih : ES c A env T H n m) (E : EnvOk env T P) {pos : Pos} : ∀ (es : List Expr) (σ : Sg) (ds : List DV) (σ' : Sg) (M : List Addr) (s : Shared), St c P M σ s.heap → Frm c env T P M s.heap ρ →
    evL (fun e s => ev H n e ρ s) (es.map (tr m T)) σ = some (ds, σ') → W c.M A (spliced (backTo pos (starEach es env))) (EvL c [] P M s σ' ds) s
  | [], σ, ds, σ', M, s, S, F, e => by
    first | exact deadP e | (refine spP e ?_; clear e; rintro rfl rfl) | (refine smP e ?_; clear e; rintro rfl) | cases e
    exact .pure ⟨M, Go.self S, VRs.nil⟩
  | a :: es, σ, ds, σ', M, s, S, F, e => by
    rw [List.map_cons] at e
    refine bndP e ?_; clear e; rintro d₁ σ₁ e1 e
    refine bndP e ?_; clear e; rintro d₂ σ₂ e2 e
    first | exact deadP e | (refine spP e ?_; clear e; rintro rfl rfl) | (refine smP e ?_; clear e; rintro rfl) | cases e
    rw [star_eq (tr_not_star e1)]
    show W _ _ (eval a env >>= fun v => pure [v] >>= fun here => holding here (spliced (backTo pos (starEach es env))) >>= fun r => pure (here ++ r)) _ _
    refine .bind ((ih a ρ σ _ _ e1 P M s E S F).mono fun v s₁ h₁ => ?_)
    refine exP2 h₁.to ?_; rintro M₁ g₁ r₁
    refine .bind (.pure (.bind (.holding ((s_args ih E es _ _ _ M₁ s₁ g₁.st (F.ext E S g₁.ex) e2).mono fun vs s₂ h₂ => ?_))))
    refine exP2 h₂ ?_; clear h₂; rintro M₂ g₂ r₂
    exact .pure ⟨M₂, g₁.trans g₂, VRs.cons (r₁.mono g₂.ex.mono0) r₂⟩
theorem evL_len {f : IE → Sg → Option (DV × Sg)} : ∀ {l : List IE} {σ : Sg} {q : List DV × Sg}, evL f l σ = some q → q.1.length = l.length
  | [], _, _, e => smP e fun z => z ▸ rfl
  | _ :: _, _, _, e => bnd1 e fun p _ e => bnd1 e fun p' e2 e => smP e fun z => z ▸ congrArg (· + 1) (evL_len e2)
theorem s_tup (ih : ES c A env T H n m) (E : EnvOk env T P) {es : List Expr} {k : Nat} {pos : Pos} (e : ev H (n + 1) (.tup (es.map (tr m T))) ρ σ = some (d, σ')) (S : St c P M σ s.heap) (F : Frm c env T P M s.heap ρ) :
    W c.M A (eval (.Tuple es k pos) env) (Ev c [] P M s σ' d) s := by
  refine ifP e ?_; clear e; intro hz e
  refine bndP e ?_; clear e; rintro ds σ₁ e1 e
  cases e
  show W _ _ (standAt pos >>= fun _ => spliced (backTo pos (starEach es env)) >>= fun vs => newTuple vs) _ _
  refine .bind (.standAt (.bind ((s_args ih E es σ _ _ M s S F e1).mono fun vs s₁ h₁ => ?_)))
  obtain ⟨M₁, g₁, r₁⟩ := h₁
  refine .of (wpAny_newTuple ?_ ?_)
  · have f := g₁.st.fresh
    exact .of (g₁.trans (Go.keep g₁.st (Keep.push _) (tk := s₁.toks))) ⟨_, vs.toArray, 0, rfl, f.1, f.2.1, Heap.get?_push_size _ rfl, r₁.mono (Keep.push _).mono⟩
  · rw [← r₁.length, evL_len e1, sizeLine_eq]
    exact Nat.le_trans hz (by decide)
end
end
section
noncomputable def attrOk (K : Frag) (C : Addr) (x : Str) : Bool :=
  plainGet K C x && hasDictIn K C && (findIn K (.ref C) x).any (noGet K) && findIn K (.ref C) "__setattr__" == some (some (.builtin "object.__setattr__")) && plainOver K C && takerIn K C x == some none
structure Kok (c : Cx) (ats : List Str) : Prop where
  kin : c.K.In c.h₀
  at_ : ∀ C ∈ c.cls, ∀ x ∈ ats, attrOk c.K C x = true
section
variable {c : Cx} {A : Around} {P P' M M₁ M₂ O : List Addr} {σ σ' σ₁ σ₂ : Sg} {h h' : Heap} {s s₁ s₂ : Shared} {env : Env} {T : Tb} {ρ : Rho} {d d₁ d₂ : DV} {H : Hd} {n m : Nat}
theorem EnvOk.more (E : EnvOk env T P) (hs : ∀ a ∈ P, a ∈ P') : EnvOk env T P' :=
  ⟨E.kf, E.kind, E.glob, E.bui, hs _ E.loc, fun x a e => ⟨hs _ (E.cel x a e).1, (E.cel x a e).2⟩, E.inj, E.has, E.nd⟩
theorem s_lst (ih : ES c A env T H n m) (E : EnvOk env T P) {mm : Bool} {es : List Expr} {pos : Pos} (e : ev H (n + 1) (.lst mm (es.map (tr m T))) ρ σ = some (d, σ')) (S : St c P M σ s.heap) (F : Frm c env T P M s.heap ρ) :
    W c.M A (eval (.List es pos) env) (Ev c [] P M s σ' d) s := by
  refine ifP e ?_; clear e; intro hz e
  refine bndP e ?_; clear e; rintro ds σ₁ e1 e
  show W _ _ (standAt pos >>= fun _ => spliced (backTo pos (starEach es env)) >>= fun vs => newList vs) _ _
  refine .bind (.standAt (.bind ((s_args ih E es σ _ _ M s S F e1).mono fun vs s₁ h₁ => ?_)))
  obtain ⟨M₁, g₁, r₁⟩ := h₁
  refine .of (wpAny_newList ?_ (by rw [← r₁.length, evL_len e1, sizeLine_eq]; exact Nat.le_trans hz (by decide)))
  exact .pre g₁ (Made.fin (tk := s₁.toks) g₁.st (Keep.push _) (.lst _ vs.toArray 0 ds (Nat.le_refl _) (Heap.get?_push_size _ rfl) r₁) e)
theorem St.adopt {a : Addr} {o : AO} (S : St c (a :: P) M σ h) (ha : a ∉ P) (hsys : a ≠ sysModules) (ho : Mono M (M ++ [a]) (a :: P) P h h → OR c (M ++ [a]) P h a o) : St c P (M ++ [a]) (σ ++ [o]) h := by
  have haM : a ∉ M := (S.off a List.mem_cons_self).1
  have h0 := (S.off a List.mem_cons_self).2
  have mo : Mono M (M ++ [a]) (a :: P) P h h := ⟨List.prefix_append _ _, fun b ob h1 h2 e => ⟨e, fun z => by
    rcases List.mem_append.mp z with z | z
    · exact h1 z
    · exact h2 (by rw [List.mem_singleton.mp z]; exact List.mem_cons_self), fun z => h2 (List.mem_cons_of_mem _ z)⟩⟩
  refine ⟨S.base, by simp [S.len], fun j b q h1 h2 => ?_, ?_, fun b hb => ?_, fun b hb => ⟨fun z => ?_, (S.off b (List.mem_cons_of_mem _ hb)).2⟩, fun b hb => S.live b (List.mem_cons_of_mem _ hb), S.nl⟩
  · by_cases hj : j < M.length
    · rw [List.getElem?_append_left hj] at h1
      rw [List.getElem?_append_left (S.len ▸ hj)] at h2
      exact (S.objs j b q h1 h2).mono mo (fun o' e' => e')
    · have hj' : j = M.length := by
        have := (List.getElem?_eq_some_iff.mp h1).1
        simp at this; lia
      subst hj'
      simp at h1
      rw [S.len] at h2
      simp at h2
      subst h1 h2
      exact ho mo
  · rw [List.nodup_append]
    exact ⟨S.nd, (by simp), fun b hb e he q => haM (by rw [List.mem_singleton.mp he] at q; rw [← q]; exact hb)⟩
  · rcases List.mem_append.mp hb with q | q
    · exact S.new b q
    · rw [List.mem_singleton.mp q]; exact ⟨h0, hsys⟩
  · rcases List.mem_append.mp z with z | z
    · exact (S.off b (List.mem_cons_of_mem _ hb)).1 z
    · rw [List.mem_singleton.mp z] at hb; exact ha hb
theorem keys_len : ∀ {keys : List (Option Expr)} {ks : List Str}, keysOf keys = some ks → keys.length = ks.length
  | [], _, e => smP e fun z => z ▸ rfl
  | _ :: _, _, e => bnd1 e fun _ _ e => map1 e fun _ e1 z => z ▸ congrArg (· + 1) (keys_len e1)
noncomputable def pairTrees (pos : Pos) (env : Env) (ks : List Str) (values : List Expr) : List (Sem Value × Sem Value) := ks.zip values |>.map fun (k, v) => (mkText k, do let x ← eval v env; standAt pos; pure x)
theorem pair_shape (pos : Pos) (env : Env) : ∀ {keys : List (Option Expr)} {ks : List Str} (values : List Expr), keysOf keys = some ks →
    (evalEachOpt keys env).zip ((evalEach values env).map fun v => do let x ← v; standAt pos; pure x) = (pairTrees pos env ks values).map fun p => (some p.1, p.2)
  | [], _, _, e => smP e fun z => z ▸ rfl
  | none :: _, _, _, e => deadP e
  | some e' :: r, _, [], e => bnd1 e fun _ _ e => map1 e fun _ e1 z => z ▸ rfl
  | some e' :: r, _, v :: values, e => bnd1 e fun k h e => map1 e fun l e1 z => by
    subst z
    obtain ⟨n, p, rfl⟩ := str_of h
    exact List.cons_eq_cons.mpr ⟨rfl, pair_shape pos env values e1⟩
theorem s_pairs (ih : ES c A env T H n m) (E : EnvOk env T P) {pos : Pos} : ∀ (ks : List Str) (es : List Expr) (σ : Sg) (ds : List DV) (σ' : Sg) (M : List Addr) (s : Shared), ks.length = es.length → St c P M σ s.heap → Frm c env T P M s.heap ρ →
    evL (fun e s => ev H n e ρ s) (es.map (tr m T)) σ = some (ds, σ') →
    W c.M A (evalPairs (pairTrees pos env ks es)) (fun vs s' => ∃ M', Go c [] P M s M' σ' s' ∧ VRs c M' P s'.heap ds (vs.map (·.2)) ∧ Carries c.kd vs (ks.zip (vs.map (·.2)))) s
  | [], [], σ, ds, σ', M, s, _, S, F, e => by
    first | exact deadP e | (refine spP e ?_; clear e; rintro rfl rfl) | (refine smP e ?_; clear e; rintro rfl) | cases e
    exact .pure ⟨M, Go.self S, VRs.nil, trivial⟩
  | [], _ :: _, _, _, _, _, _, hl, _, _, _ => by cases hl
  | _ :: _, [], _, _, _, _, _, hl, _, _, _ => by cases hl
  | k :: ks, a :: es, σ, ds, σ', M, s, hl, S, F, e => by
    rw [List.map_cons] at e
    unfold evL at e
    refine bndP e ?_; clear e; rintro d₁ σ₁ e1 e
    refine bndP e ?_; clear e; rintro d₂ σ₂ e2 e
    first | exact deadP e | (refine spP e ?_; clear e; rintro rfl rfl) | (refine smP e ?_; clear e; rintro rfl) | cases e
    show W _ _ (mkText k >>= fun kv => holding [kv] (eval a env >>= fun x => standAt pos >>= fun _ => pure x) >>= fun vv => holding [kv, vv] (evalPairs (pairTrees pos env ks es)) >>= fun r => pure ((kv, vv) :: r)) _ _
    refine .leaf (wpAny_mkText ?_)
    refine .bind (.holding (.bind ((ih a ρ σ _ _ e1 P M { s with toks := s.toks + 1 } E S F).mono fun v s₁ h₁ => ?_)))
    refine exP2 h₁.to ?_; rintro M₁ g₁ r₁
    refine .bind (.standAt (.pure ?_))
    refine .bind (.holding ((s_pairs ih E ks es _ _ _ M₁ s₁ (by simpa using hl) g₁.st (F.ext E S g₁.ex) e2).mono fun vs s₂ h₂ => ?_))
    refine byG fun GG kk => ?_
    refine exP3 h₂ ?_; clear h₂; rintro M₂ g₂ r₂ r₃
    refine kk ?_
    clear kk GG
    exact .pure ⟨M₂, (Go.trans (Go.refl S) g₁).trans g₂, VRs.cons (r₁.mono g₂.ex.mono0) r₂, is_str k _, rfl, r₃⟩
theorem s_dct (ih : ES c A env T H n m) (E : EnvOk env T P) {mm : Bool} {keys : List (Option Expr)} {ks : List Str} {es : List Expr} {pos : Pos} (hk : keysOf keys = some ks) (e : ev H (n + 1) (.dct mm ks (es.map (tr m T))) ρ σ = some (d, σ')) (S : St c P M σ s.heap) (F : Frm c env T P M s.heap ρ) :
    W c.M A (eval (.Dict keys es pos) env) (Ev c [] P M s σ' d) s := by
  refine ifP e ?_; clear e; intro hz e
  ·
    refine andP3 hz ?_; clear hz; rintro hz1 hz2 hz3
    refine bndP e ?_; clear e; rintro ds σ₁ e1 e'
    have e : Mine.fin mm (.dct ks ds) σ₁ = some (d, σ') := e'
    clear e'
    rw [List.length_map] at hz1 hz2
    show W _ _ (standAt pos >>= fun _ => dictDisplay ((evalEachOpt keys env).zip ((evalEach es env).map fun v => do let x ← v; standAt pos; pure x))) _ _
    refine .bind (.standAt ?_)
    rw [pair_shape pos env es hk]
    cases es with
    | nil =>
      cases ks with
      | cons _ _ => simp at hz2
      | nil =>
        first | exact deadP e1 | (refine spP e1 ?_; clear e1; rintro rfl rfl) | (refine smP e1 ?_; clear e1; rintro rfl) | cases e1
        show W _ _ (newDict) _ _
        refine .of (wpAny_newObj_type ?_)
        exact Made.fin (tk := s.toks) S (Keep.push _) (.dct _ [] [] [] (Nat.le_refl _) (Heap.DictOf.new _) rfl VRs.nil) e
    | cons a es =>
      have hp : pairTrees pos env ks (a :: es) ≠ [] := by
        cases ks with
        | nil => simp at hz2
        | cons k ks => simp [pairTrees]
      have hpl : (pairTrees pos env ks (a :: es)).length = (a :: es).length := by simp [pairTrees, hz2]
      rw [dictDisplay_pairs _ hp (by lia)]
      unfold subDict
      refine .bind (.leaf (wpAny_alloc ?_))
      refine .bind (.holding (W.pos (by lia) ?_))
      have hd := S.fresh
      generalize ha : s.heap.objs.size = D at hd
      have hnone : s.heap.get? D = none := by rw [← ha]; exact none_of_size
      have hD0 := Heap.DictOf.new (knd := c.kd) s.heap
      rw [ha] at hD0
      have S0 : St c (D :: P) M σ (s.heap.push { cls := .type "dict", data := .dict #[] }) := S.enter (Keep.push _) (fun b hb => by
          rcases List.mem_cons.mp hb with rfl | hb
          · exact .inr hnone
          · exact .inl hb) (fun b hb => by
          rcases List.mem_cons.mp hb with rfl | hb
          · obtain ⟨o, _, _, ho, _⟩ := hD0; exact ⟨o, ho⟩
          · obtain ⟨o, ho⟩ := S.live b hb; exact ⟨o, Keep.push _ _ _ ho⟩)
      have mo0 : Mono M M P (D :: P) s.heap (s.heap.push { cls := .type "dict", data := .dict #[] }) := Mono.enter (Keep.push _) fun b hb => by
          rcases List.mem_cons.mp hb with rfl | hb
          · exact .inr hnone
          · exact .inl hb
      have F0 := F.keep mo0 fun b _ o e => Keep.push _ _ _ e
      refine .bind ((s_pairs ih (E.more fun b hb => List.mem_cons_of_mem _ hb) ks (a :: es) σ _ _ M _ hz2 S0 F0 e1).mono fun vs s₁ h₁ => ?_)
      refine byG fun GG kk => ?_
      refine exP3 h₁ ?_; clear h₁; rintro M₁ g₁ r₁ cr
      refine kk ?_
      clear kk GG
      have hDM := (g₁.st.off D List.mem_cons_self).1
      have hD1 : s₁.heap.DictOf c.kd D [] := hD0.at fun o e => g₁.ex.keep D o (S0.off D List.mem_cons_self).1 (fun z => nomatch z) e
      have hlen := r₁.length
      have hlen2 := evL_len e1
      simp only [List.length_map] at hlen hlen2
      refine .holding (.leaf (wpAny_storeAll (knd := c.kd) vs _ [] s₁ _ cr hD1 ?_ fun h' hD2 hs => ?_))
      · have := cr.length
        rw [this, sizeLine_eq]; simp only [List.length_nil]; lia
      refine .pure (.pure (.pure ?_))
      have hnd : ((ks.zip (vs.map (·.2))).map (·.1)).Nodup := by
        rw [List.map_fst_zip (by rw [List.length_map]; lia)]; exact hz3
      rw [merged_nil_of_nodup _ hnd] at hD2
      have x : Ext [D] M₁ M₁ s₁.heap h' := ⟨List.prefix_refl _, fun _ z => .inl z, fun _ z _ => z, fun b ob h1 h2 e => (hs.2 b (by simpa using h2)).trans e⟩
      have S2 : St c (D :: P) M₁ σ₁ h' := g₁.st.own x (fun b hb => by rw [List.mem_singleton.mp hb]; exact List.mem_cons_self) (fun b hb ob e => (hs.2 b fun z => hDM (z ▸ hb)).trans e)
        (fun b hb => by rw [List.mem_singleton.mp hb]; obtain ⟨o, _, _, ho, _⟩ := hD2; exact ⟨o, ho⟩)
      have r2 := r₁.mono (x.mono (P := D :: P) fun b hb => by rw [List.mem_singleton.mp hb]; exact List.mem_cons_self)
      have X0 : Ext [] M M₁ s.heap h' := ⟨g₁.ex.pre, fun b hb => (g₁.ex.new b hb).imp id (fun z => by
          cases q : s.heap.get? b with
          | none => rfl
          | some ob => rw [Keep.push _ _ _ q] at z; cases z), (fun _ _ z => nomatch z), fun b ob h1 _ q => by
            have hb : b ≠ D := fun z => by rw [z, hnone] at q; cases q
            exact (hs.2 b hb).trans (g₁.ex.keep b ob h1 (fun z => nomatch z) (Keep.push _ _ _ q))⟩
      have hzl : ks.length = (vs.map (·.2)).length := by rw [List.length_map]; lia
      unfold Mine.fin at e
      cases mm with
      | false =>
        first | exact deadP e | (refine spP e ?_; clear e; rintro rfl rfl) | (refine smP e ?_; clear e; rintro rfl) | cases e
        have S3 := S2.shrink (P' := P) fun b hb => List.mem_cons_of_mem _ hb
        exact ⟨M₁, S3, X0, ⟨D, _, rfl, hDM, hd.2.1, hd.2.2, hD2, hzl, r2.mono (Mono.shrink fun b hb => List.mem_cons_of_mem _ hb)⟩, g₁.gn, g₁.os⟩
      | true =>
        first | exact deadP e | (refine spP e ?_; clear e; rintro rfl rfl) | (refine smP e ?_; clear e; rintro rfl) | cases e
        have S3 := S2.adopt (o := .dict ks ds) hd.2.1 hd.2.2 fun mo => ⟨_, hD2, hzl, r2.mono mo⟩
        refine ⟨M₁ ++ [D], S3, ⟨X0.pre.trans (List.prefix_append _ _), fun b hb => ?_, (fun _ _ z => nomatch z), X0.keep⟩, ⟨D, rfl, ?_⟩, g₁.gn, g₁.os⟩
        · rcases List.mem_append.mp hb with hb | hb
          · exact X0.new b hb
          · rw [List.mem_singleton.mp hb]; exact .inr hnone
        · rw [← g₁.st.len]; simp
theorem VR.handed {v : Value} (r : VR c M P h d v) : handedIn v = true := by
  cases d with
  | none => cases (show v = _ from r); rfl
  | bool b => cases (show v = _ from r); rfl
  | int i => obtain ⟨_, rfl⟩ := r; rfl
  | str x => obtain ⟨_, rfl⟩ := r; rfl
  | bytes b => obtain ⟨_, rfl⟩ := r; rfl
  | tup l => obtain ⟨_, _, _, rfl, _⟩ := r; rfl
  | lst l => obtain ⟨_, _, _, rfl, _⟩ := r; rfl
  | ba b => obtain ⟨_, rfl, _⟩ := r; rfl
  | dct ks l => obtain ⟨_, _, rfl, _⟩ := r; rfl
  | inst C i => obtain ⟨_, _, rfl, _⟩ := r; rfl
  | loc i => obtain ⟨_, rfl, _⟩ := r; rfl
  | con u => obtain ⟨rfl, h⟩ := r; exact h
theorem isStr_eq (v : Value) (x : Str) : v.isStr x = Value.isStrOf x v := by cases v <;> rfl
theorem look_dict {a : Addr} {kvs : List (Str × Value)} (D : h.DictOf c.kd a kvs) : ∃ od, h.get? a = some od ∧ (∀ x, lookIn x od = some (valueAt kvs x)) ∧ ∃ es n, od = ⟨.type "dict", none, .dict es n, #[]⟩ ∧ KeysOf c.kd es ∧ Pairs c.kd es.toList kvs ∧ (kvs.map (·.1)).Nodup := by
  refine byG fun GG kk => ?_
  obtain ⟨⟨oc, odi, oda, osl⟩, es, ep, ho, ⟨hc1, hc2, hc3⟩, hd, hk, hp, hn⟩ := D
  refine kk ?_
  clear kk GG
  dsimp only at hc1 hc2 hc3 hd
  subst hc1 hc2 hc3 hd
  refine ⟨_, ho, fun x => ?_, es, ep, rfl, hk, hp, hn⟩
  have hf := hp.find x
  have he : (es.toList.find? fun e => e.key.isStr x) = es.toList.find? fun e => c.kd.is x e.key := by
    congr 1; funext e; exact isStr_eq _ _
  unfold lookIn
  dsimp only
  rw [he]
  cases hq : es.toList.find? fun e => c.kd.is x e.key with
  | some en => rw [hq] at hf; rw [← hf]; rfl
  | none =>
    rw [hq] at hf
    have : es.toList.any (·.refKey) = false := by
      rw [List.any_eq_false]
      intro e he
      refine exP1 (hk e (by simpa using he)) ?_; rintro k hk'
      refine exP1 (Value.isStrOf_shape hk'.1) ?_; rintro t ht
      simp [DictEntry.refKey, ht]
    rw [this]
    simp only [Bool.false_eq_true, if_false]
    rw [← hf]; rfl
theorem base_eq {o : Expr} {x : Str} {whole : Sem Value} (hb : baseOk o = true) : attributeBase o x env whole = whole := by
  cases o with
  | Call f a k p =>
    cases f <;> try rfl
    cases a <;> try rfl
    cases k <;> try rfl
    exact nomatch hb
  | _ => rfl
theorem s_attr (ih : ES c A env T H n m) (E : EnvOk env T P) {ats : List Str} (K : Kok c ats) {a : Expr} {x : Str} {pos : Pos} (hb : baseOk a = true) (hx : x ∈ ats) (e : ev H (n + 1) (.attr (tr m T a) x) ρ σ = some (d, σ')) (S : St c P M σ s.heap) (F : Frm c env T P M s.heap ρ) :
    W c.M A (eval (.Attribute a x pos) env) (Ev c [] P M s σ' d) s := by
  refine bndP e ?_; clear e; rintro d₁ σ₁ e1 e
  refine bnd1 e ?_; clear e; rintro ⟨C, i⟩ hc e
  cases instD_eq hc; clear hc
  ·
    refine bndP e ?_; clear e; rintro ks l e2 e
    refine bnd1 e ?_; clear e; rintro d₂ e3 e
    first | exact deadP e | (refine spP e ?_; clear e; rintro rfl rfl) | (refine smP e ?_; clear e; rintro rfl) | cases e
    show W _ _ (attributeBase a x env (eval a env) >>= fun o => standAt pos.atName >>= fun _ => holding [o] (getAttr o x true) >>= fun r => letTemporaryGo a o r >>= fun _ => pure r) _ _
    rw [base_eq hb]
    refine .bind ((ih a ρ σ _ _ e1 P M s E S F).mono fun v s₁ h₁ => ?_)
    refine byG fun GG kk => ?_
    refine exP2 h₁.to ?_; rintro M₁ g₁ r₁
    obtain ⟨xa, dx, rfl, _, _, hgx, hi, hC⟩ := r₁
    refine kk ?_
    clear kk GG
    have S₁ := g₁.st
    have hloc : VR c M₁ P s₁.heap (.loc i) (.ref dx) := ⟨dx, rfl, hi⟩
    refine byG fun GG kk => ?_
    refine exQ5 (dict_of S₁ e2 hloc) ?_; rintro a' vs ea hs' hD hl1 hvs
    refine kk ?_
    clear kk GG
    first | exact deadP ea | (refine spP ea ?_; clear ea; rintro rfl rfl) | (refine smP ea ?_; clear ea; rintro rfl) | cases ea
    refine byG fun GG kk => ?_
    refine exP3 (look_dict hD) ?_; rintro od ho hlook _
    refine kk ?_
    clear kk GG
    have hv := (valueAt_zip x hl1 hvs).1
    rw [e3] at hv
    refine exP2 hv ?_; clear hv; rintro u hu hr
    have hok := K.at_ C hC x hx
    unfold attrOk at hok
    simp only [Bool.and_eq_true, beq_iff_eq] at hok
    refine byG fun GG kk => ?_
    refine andP2 hok ?_; clear hok; rintro ⟨⟨⟨⟨k1, k2⟩, k3⟩, k4⟩, k5⟩ k6
    refine kk ?_
    clear kk GG
    obtain ⟨attr, ka, kb⟩ : ∃ attr, findIn c.K (.ref C) x = some attr ∧ noGet c.K attr = true := by
      cases q : findIn c.K (.ref C) x with
      | none => rw [q] at k3; cases k3
      | some a => rw [q] at k3; exact ⟨a, rfl, k3⟩
    have X : c.K.In s₁.heap := K.kin.keeps S₁.base
    refine .bind (.standAt (.bind (.holding (.of (get_value (prog := c.prog) (w := c.w) X (ox := instObj C dx) (od := some od) ⟨hgx, rfl, rfl, ho⟩ (plainGet_of k1).1 (findObj_own k2 ka kb (by rw [hlook, hu])) hr.handed ?_)))))
    refine .leaf (wpAny_letTemporaryGo (.pure ?_))
    exact .pre g₁ (.here S₁ hr)
theorem s_sub (ih : ES c A env T H n m) (E : EnvOk env T P) {a i : Expr} {pos : Pos} (e : ev H (n + 1) (.sub (tr m T a) (tr m T i)) ρ σ = some (d, σ')) (S : St c P M σ s.heap) (F : Frm c env T P M s.heap ρ) :
    W c.M A (eval (.Subscript a i pos) env) (Ev c [] P M s σ' d) s := by
  refine bndP e ?_; clear e; rintro d₁ σ₁ e1 e
  refine bndP e ?_; clear e; rintro d₂ σ₂ e2 e
  refine bnd1 e ?_; clear e; rintro d₃ e3 e4
  first | exact deadP e4 | (refine spP e4 ?_; clear e4; rintro rfl rfl) | (refine smP e4 ?_; clear e4; rintro rfl) | cases e4
  show W _ _ (eval a env >>= fun v => holding [v] (eval i env) >>= fun u => standAt pos >>= fun _ => subscriptTail a i v u) _ _
  refine .bind ((ih a ρ σ _ _ e1 P M s E S F).mono fun v s₁ h₁ => ?_)
  refine exP2 h₁.to ?_; rintro M₁ g₁ r₁
  refine .bind (.holding ((ih i ρ _ _ _ e2 P M₁ s₁ E g₁.st (F.ext E S g₁.ex)).mono fun u s₂ h₂ => ?_))
  refine exP2 h₂.to ?_; rintro M₂ g₂ r₂
  refine .bind (.standAt (.of ?_))
  refine byG fun GG kk => ?_
  refine exQ3 (subV_sound (A := A) (E := fun _ _ => False) (Q := Ev c [] P M s σ₂ d) g₂.st e3 (r₁.mono g₂.ex.mono0) r₂ fun w h' tk k r => .pre (g₁.trans g₂) (.of (Go.keep g₂.st k) r)) ?_; rintro T' id z1 z2 z3
  refine kk ?_
  clear kk GG
  exact tail_sound z1 z2 z3
theorem s_opt (ih : ES c A env T H n m) (E : EnvOk env T P) {o : Option Expr} (e : evO (fun e s => ev H n e ρ s) (o.map (tr m T)) σ = some (d, σ')) (S : St c P M σ s.heap) (F : Frm c env T P M s.heap ρ) :
    W c.M A (valueOrNone (evalOpt o env)) (Ev c [] P M s σ' d) s := by
  cases o with
  | none => cases e; exact .pure (.here' S (by unfold VR; rfl))
  | some a => exact ih a ρ σ _ _ e P M s E S F
theorem s_sl (ih : ES c A env T H n m) (E : EnvOk env T P) {a : Expr} {lo hi st : Option Expr} {p pos : Pos} (e : ev H (n + 1) (.sl (tr m T a) (lo.map (tr m T)) (hi.map (tr m T)) (st.map (tr m T))) ρ σ = some (d, σ')) (S : St c P M σ s.heap) (F : Frm c env T P M s.heap ρ) :
    W c.M A (eval (.Subscript a (.Slice lo hi st p) pos) env) (Ev c [] P M s σ' d) s := by
  refine bndP e ?_; clear e; rintro d₁ σ₁ e1 e
  refine bndP e ?_; clear e; rintro d₂ σ₂ e2 e
  refine bndP e ?_; clear e; rintro d₃ σ₃ e3 e
  refine bndP e ?_; clear e; rintro d₄ σ₄ e4 e
  refine bnd1 e ?_; clear e; rintro d₅ e5 e6
  first | exact deadP e6 | (refine spP e6 ?_; clear e6; rintro rfl rfl) | (refine smP e6 ?_; clear e6; rintro rfl) | cases e6
  show W _ _ (eval a env >>= fun v => holding [v] (valueOrNone (evalOpt lo env) >>= fun l => holding [l] (valueOrNone (evalOpt hi env)) >>= fun u => holding [l, u] (valueOrNone (evalOpt st env)) >>= fun t => newFields "slice" [l, u, t]) >>=
    fun u => standAt pos >>= fun _ => subscriptTail a (.Slice lo hi st p) v u) _ _
  refine .bind ((ih a ρ σ _ _ e1 P M s E S F).mono fun v s₁ h₁ => ?_)
  refine exP2 h₁.to ?_; rintro M₁ g₁ r₁
  refine .bind (.holding (.bind ((s_opt ih E e2 g₁.st (F.ext E S g₁.ex)).mono fun l s₂ h₂ => ?_)))
  refine exP2 h₂.to ?_; rintro M₂ g₂ r₂
  have g₁₂ := g₁.trans g₂
  refine .bind (.holding ((s_opt ih E e3 g₂.st (F.ext E S g₁₂.ex)).mono fun u s₃ h₃ => ?_))
  refine exP2 h₃.to ?_; rintro M₃ g₃ r₃
  have g₁₃ := g₁₂.trans g₃
  refine .bind (.holding ((s_opt ih E e4 g₃.st (F.ext E S g₁₃.ex)).mono fun t s₄ h₄ => ?_))
  refine exP2 h₄.to ?_; rintro M₄ g₄ r₄
  have g₁₄ := g₁₃.trans g₄
  have R₁ := r₁.mono (g₂.trans (g₃.trans g₄)).ex.mono0
  have R₂ := r₂.mono (g₃.trans g₄).ex.mono0
  have R₃ := r₃.mono g₄.ex.mono0
  refine .of (wpAny_newObj_type ?_)
  have hsl := Heap.IsSliceOf.new s₄.heap l u t
  have kp : Keep s₄.heap (s₄.heap.push { cls := .type "slice", data := .fields #[l, u, t] }) := Keep.push _
  have S₅ : St c P M₄ σ₄ (s₄.heap.push { cls := .type "slice", data := .fields #[l, u, t] }) := g₄.st.keeps kp
  have R₁' := R₁.mono kp.mono
  refine .bind (.standAt (.of ?_))
  have fin : ∀ (h' : Heap) (v : Value), Keep (s₄.heap.push { cls := .type "slice", data := .fields #[l, u, t] }) h' → VR c M₄ P h' d v → Ev c [] P M s σ₄ d v { s₄ with heap := h', toks := s₄.toks } := fun h' v k r =>
    .pre g₁₄ (.of (Go.keep (tk := s₄.toks) g₄.st (kp.trans k)) r)
  unfold sliceV at e5
  refine bnd1 e5 ?_; clear e5; rintro lo' p1 e5
  refine bnd1 e5 ?_; clear e5; rintro hi' p2 e5
  refine bnd1 e5 ?_; clear e5; rintro st' p3 e5
  have q1 := part_of p1 R₂
  have q2 := part_of p2 R₃
  have q3 := part_of p3 r₄
  refine elimO e5 ?_ ?_ <;> clear e5
  · intro _ e5
    refine bnd1 e5 ?_; clear e5; rintro b hb e5
    refine ifP e5 ?_; clear e5; intro hc e5
    cases e5
    obtain ⟨ax, rfl, gx⟩ := ba_of (s := { s₄ with heap := _ }) S₅ hb R₁'
    rw [hc.2] at q3
    cases q3
    refine tail_sound (T := "bytearray") ⟨_, gx, rfl⟩ BA.slot_getitem.lookup ?_
    refine ba_getslice (s := { s₄ with heap := _ }) gx hsl q1 q2 hc.1 ?_
    have f := St.fresh S₅
    exact fin _ _ (Keep.push _) ⟨_, rfl, f.1, f.2.1, Heap.get?_push_size _ rfl⟩
  · intro l' hl' e5
    refine ifP e5 ?_; clear e5; intro hc e5
    cases e5
    refine byG fun GG kk => ?_
    obtain ⟨ax, vx, nx, rfl, gx, rx⟩ := lst_of_items (s := { s₄ with heap := _ }) S₅ hl' R₁'
    refine kk ?_
    clear kk GG
    refine tail_sound (T := "list") ⟨_, gx, rfl⟩ slot_list_getitem.lookup ?_
    exact list_slice_sound (s := { s₄ with heap := _ }) S₅ gx rx hsl q1 q2 q3 hc.2 hc.1 fun w h' tk k r => .pre g₁₄ (.of (Go.keep g₄.st (kp.trans k)) r)
end
end
section
noncomputable def methOk (K : Frag) (C f : Addr) (x : Str) : Bool :=
  plainGet K C x && findIn K (.ref C) x == some (some (.ref f)) && typeIn K (.ref f) == some (.type "function") && keepIn K (.ref f)
structure Mok (c : Cx) (mt : Str → Nat → Option (Addr × Addr)) : Prop where
  ok : ∀ x k C f, mt x k = some (C, f) → methOk c.K C f x = true
structure HS (c : Cx) (k : Nat) (H : Hd) : Prop where
  keep : ∀ a args σ r, H a args σ = some r → keepIn c.K (.ref a) = true
  run : ∀ a args σ d σ', H a args σ = some (d, σ') → ∀ (A : Around) (P M : List Addr) (s : Shared) (vs : List Value), Room A k → St c P M σ s.heap → VRs c M P s.heap args vs → W c.M A (call (.ref a) vs) (Ev c [] P M s σ' d) s
section
variable {c : Cx} {A : Around} {P P' M M₁ M₂ O : List Addr} {σ σ' σ₁ σ₂ : Sg} {h h' : Heap} {s s₁ s₂ : Shared} {env : Env} {T : Tb} {ρ : Rho} {d d₁ d₂ : DV} {H : Hd} {n m : Nat}
theorem plain_args {pos : Pos} : ∀ {es : List Expr} {σ : Sg} {q : List DV × Sg}, evL (fun e s => ev H n e ρ s) (es.map (tr m T)) σ = some q → backTo pos (starEach es env) = es.map fun e => (false, eval e env)
  | [], _, _, _ => rfl
  | a :: es, σ, q, e => by
    rw [List.map_cons] at e
    unfold evL at e
    refine bnd1 e ?_; clear e; rintro p e1 e
    refine bnd1 e ?_; clear e; rintro p' e2 e
    rw [star_eq (tr_not_star e1)]
    have := plain_args (pos := pos) e2
    unfold backTo at this ⊢
    rw [List.map_cons, this]; rfl
protected theorem W.evalArgs {M : Model} {f : Value} {es : List Expr} {Q : Args → Shared → Prop} (h : W M A (spliced (es.map fun e => (false, eval e env))) (fun vs s' => Q ⟨vs, []⟩ s') s) :
    W M A (evalArgs f true (es.map fun e => (false, eval e env)) []) Q s := by
  have key : evalArgs f true (es.map fun e => (false, eval e env)) [] = (spliced (es.map fun e => (false, eval e env)) >>= fun vs => pure (vs, (none : Option Value)) >>= fun p => holding (p.1 ++ p.2.toList) (pure ([] : List Value) >>= fun _ => pure p.1 >>= fun q => pure ⟨q, []⟩)) := by
    cases es with
    | nil => rfl
    | cons a es => rfl
  rw [key]
  exact .bind (h.mono fun vs s' h' => .bind (.pure (.holding (.bind (.pure (.bind (.pure (.pure h'))))))))
protected theorem W.keep {M : Model} {α : Type} {vs : List Value} {m : Sem α} {Q : α → Shared → Prop} (h : W M A m Q s) : W M A (m.keep vs) Q s :=
  fun Γ p hΓ hc => by rw [Sem.wp_keep]; exact h Γ p hΓ hc
protected theorem W.callWith {M : Model} {pos : Pos} {f : Value} {first : List Value} {es : List Expr} {Q : Value → Shared → Prop}
    (h : W M A (spliced (es.map fun e => (false, eval e env))) (fun vs s₁ => (∃ k, (k = Keeper.frame ∨ k = Keeper.machine) ∧ Looks M s₁.heap (keeperOf f) k) ∧ W M A (call f (first ++ vs)) Q s₁) s) :
    W M A (callWith pos f first (es.map fun e => (false, eval e env)) []) Q s := by
  unfold callWith
  refine .bind (.holding (.evalArgs (h.mono fun vs s₁ h₁ => ?_)))
  refine andP2 h₁ ?_; clear h₁; rintro ⟨k, hk, L⟩ hc
  refine .bind (.standAt ?_)
  have hst : (es.map fun e => (false, eval e env)).any (·.1) = false := by
    rw [List.any_eq_false]; intro x hx; obtain ⟨e, _, rfl⟩ := List.mem_map.mp hx; simp
  simp only [hst, List.any_nil, Bool.or_false]
  refine .leaf (L.here ?_)
  have tail : ∀ {t : Sem Value}, W M A t Q s₁ → W M A (t >>= fun r => holding [r] point >>= fun _ => pure r) Q s₁ :=
    fun ht => .bind (ht.mono fun r s₂ hr => .bind (.holding (.point (.pure hr))))
  rcases hk with rfl | rfl
  · dsimp only
    split
    · exact tail hc
    · exact tail (by unfold callMarked; exact hc.keep)
  · exact tail hc
theorem Go.set {i : Nat} {a : Addr} {o : AO} (S : St c P M σ s.heap) (hi : M[i]? = some a) (hs : ∀ b o, b ≠ a → s.heap.get? b = some o → h'.get? b = some o) (ho : Mono M M P P s.heap h' → OR c M P h' a o) {tk : Tok} :
    Go c [] P M s M (σ.set i o) { s with heap := h', toks := tk } :=
  let ⟨S', X⟩ := S.set hi hs ho
  ⟨S', X, rfl, rfl⟩
theorem keeper_plain {M : Model} {f : Value} (hf : ∀ a, f ≠ .ref a) : ∃ k, (k = Keeper.frame ∨ k = Keeper.machine) ∧ Looks M h (keeperOf f) k := by
  refine ⟨.machine, .inr rfl, Looks.of_pure ?_⟩
  unfold keeperOf
  cases f <;> first | rfl | exact absurd rfl (hf _)
theorem biB_val {n : String} {b : BI} (e : biB n = some b) : Value.builtin n = b.val := by
  unfold biB at e
  split at e
  · subst n; cases e; rfl
  split at e
  · subst n; cases e; rfl
  split at e
  · subst n; cases e; rfl
  cases e
theorem biT_val {n : String} {b : BI} (e : biT n = some b) : Value.type n = b.val := by
  unfold biT at e
  split at e
  · subst n; cases e; rfl
  split at e
  · subst n; cases e; rfl
  split at e
  · subst n; cases e; rfl
  split at e
  · subst n; cases e; rfl
  split at e
  · subst n; cases e; rfl
  cases e
theorem bi_val {u : Value} {b : BI} (e : biOf u = some b) : u = b.val := by
  cases u with
  | builtin n => exact biB_val e
  | type n => exact biT_val e
  | _ => cases e
theorem bi_plain (b : BI) : ∀ a, b.val ≠ .ref a := by cases b <;> (intro a h; cases h)
theorem exQ2H {T : Tb} {f : Expr} {b : BI} {X : Prop} (hf : headOf T f = some b) (k : ∀ x px, f = .Name x px → headOf T (.Name x px) = some b → X) : X := by
  cases f with
  | Name x px => exact k x px rfl hf
  | _ => exact deadP hf
theorem s_prim (ih : ES c A env T H n m) (E : EnvOk env T P) {k : Nat} (R : Room A k) (G : Gok c T.gl) {mm : Bool} {b : BI} {f : Expr} {es : List Expr} {pos : Pos} (hf : headOf T f = some b) (e : ev H (n + 1) (.prim mm b (es.map (tr m T))) ρ σ = some (d, σ')) (S : St c P M σ s.heap) (F : Frm c env T P M s.heap ρ) :
    W c.M A (eval (.Call f es [] pos) env) (Ev c [] P M s σ' d) s := by
  refine bndP e ?_; clear e; rintro ds σ₁ e1 e
  refine bnd1 e ?_; clear e; rintro d₁ e2 e3
  refine exQ2H hf ?_; clear hf; rintro x px rfl hf
  · refine ifP hf ?_; clear hf; intro hk hf
    · skip
      refine andP2 hk ?_; clear hk; rintro hk hdb
      refine bnd1 hf ?_; clear hf; rintro u hu hb
      cases bi_val hb
      show W _ _ (eval (.Name x px) env >>= fun v => callWith pos v [] (backTo pos (starEach es env)) []) _ _
      refine .leaf (ld_glob E S G hdb hk hu fun _ => ?_)
      have hp := plain_args (env := env) (pos := pos) e1
      have sa := s_args (pos := pos) ih E es σ _ _ M s S F e1
      rw [hp] at sa ⊢
      refine .callWith (sa.mono fun vs s₁ h₁ => ⟨keeper_plain (bi_plain b), ?_⟩)
      refine exP2 h₁ ?_; clear h₁; rintro M₁ g₁ r₁
      exact primV_sound R.hh g₁.st e2 r₁ fun v h' tk kk md => .pre g₁ (Made.fin g₁.st kk md e3)
theorem s_call (ih : ES c A env T H n m) (E : EnvOk env T P) {k : Nat} (R : Room A k) (hs : HS c k H) {ats : List Str} (K : Kok c ats) {f : Expr} {es : List Expr} {pos : Pos} (hf : ∀ o x p, f ≠ .Attribute o x p) (e : ev H (n + 1) (.call (tr m T f) (es.map (tr m T))) ρ σ = some (d, σ')) (S : St c P M σ s.heap) (F : Frm c env T P M s.heap ρ) :
    W c.M A (eval (.Call f es [] pos) env) (Ev c [] P M s σ' d) s := by
  refine bndP e ?_; clear e; rintro d₁ σ₁ e1 e
  refine bnd1 e ?_; clear e; intro a hp e
  cases refD_eq hp; clear hp
  ·
    refine bndP e ?_; clear e; rintro ds σ₂ e2 e3
    have hev : eval (.Call f es [] pos) env = (eval f env >>= fun v => callWith pos v [] (backTo pos (starEach es env)) []) := by
      cases f <;> first | rfl | exact absurd rfl (hf _ _ _)
    rw [hev]
    refine .bind ((ih f ρ σ _ _ e1 P M s E S F).mono fun v s₁ h₁ => ?_)
    refine exP2 h₁.to ?_; rintro M₁ g₁ r₁
    refine andP2 r₁ ?_; clear r₁; rintro rfl _
    have hp := plain_args (env := env) (pos := pos) e2
    have sa := s_args (pos := pos) ih E es σ₁ _ _ M₁ s₁ g₁.st (F.ext E S g₁.ex) e2
    rw [hp] at sa ⊢
    refine .callWith (sa.mono fun vs s₂ h₂ => ?_)
    refine exP2 h₂ ?_; clear h₂; rintro M₂ g₂ r₂
    exact ⟨looks_keep (hs.keep _ _ _ _ e3) (K.kin.keeps g₂.st.base), (hs.run _ _ _ _ _ e3 A P M₂ s₂ vs R g₂.st r₂).mono fun w s₃ h₃ => .pre (g₁.trans g₂) h₃⟩
theorem meth_tree {o : Expr} {x : Str} {es : List Expr} {apos pos : Pos} (hb : baseOk o = true) (hl : (apos.endLine == pos.line) = true) (hn : es.length < 20) (hp : backTo pos (starEach es env) = es.map fun e => (false, eval e env)) :
    ∃ pl : Sem Bool, eval (.Call (.Attribute o x apos) es [] pos) env = (eval o env >>= fun ov => standAt apos.atName >>= fun _ => holding [ov] (getMethod ov x pl) >>= fun p => callWith pos p.1 p.2 (es.map fun e => (false, eval e env)) []) := by
  refine ⟨(do return (← importBound o env).getD true), ?_⟩
  show (attributeBase o x env (eval o env) >>= fun ov => standAt apos.atName >>= fun _ => methodCall o x apos pos env ov (es.length + 0) (backTo pos (starEach es env)) []) = _
  rw [base_eq hb, hp]
  have hst : (es.map fun e => (false, eval e env)).all (!·.1) = true := by
    rw [List.all_eq_true]; intro x hx; obtain ⟨e, _, rfl⟩ := List.mem_map.mp hx; rfl
  have hfew : methodCallForm (es.length + 0) (es.map fun e => (false, eval e env)) [] = true := by
    unfold methodCallForm
    rw [hst]
    simp only [List.all_nil, Bool.and_true, Bool.true_and, List.isEmpty_nil, if_true]
    exact decide_eq_true (by lia)
  congr 1; funext ov; congr 1; funext _
  unfold methodCall
  rw [hfew]
  unfold methodCallPos calleeOf
  simp only [Bool.not_true, Bool.false_or, hl, if_true]
  rfl
theorem s_meth (ih : ES c A env T H n m) (E : EnvOk env T P) {k : Nat} (R : Room A k) (hs : HS c k H) {ats : List Str} (K : Kok c ats) {C f : Addr} {x : Str} (hm : methOk c.K C f x = true) {o : Expr} {es : List Expr} {apos pos : Pos} (hb : baseOk o = true) (hl : (apos.endLine == pos.line) = true) (hn : es.length < 20)
    (e : ev H (n + 1) (.meth C f x (tr m T o) (es.map (tr m T))) ρ σ = some (d, σ')) (S : St c P M σ s.heap) (F : Frm c env T P M s.heap ρ) :
    W c.M A (eval (.Call (.Attribute o x apos) es [] pos) env) (Ev c [] P M s σ' d) s := by
  refine bndP e ?_; clear e; rintro d₁ σ₁ e1 e
  refine bnd1 e ?_; clear e; rintro ⟨C', i⟩ hp e
  cases instD_eq hp; clear hp
  ·
    refine ifP e ?_; clear e; intro hC e
    ·
      subst hC
      refine bndP e ?_; clear e; rintro ks l e2 e
      refine ifN e ?_; clear e; intro hx e
      ·
        refine bndP e ?_; clear e; rintro ds σ₂ e3 e4
        refine exP1 (meth_tree (env := env) (x := x) hb hl hn (plain_args (env := env) (pos := pos) e3)) ?_; rintro pl hev
        rw [hev]
        refine .bind ((ih o ρ σ _ _ e1 P M s E S F).mono fun v s₁ h₁ => ?_)
        refine exP2 h₁.to ?_; rintro M₁ g₁ r₁
        have r₁' := r₁
        obtain ⟨xa, dx, rfl, _, _, hgx, hi, hC⟩ := r₁
        have S₁ := g₁.st
        have hloc : VR c M₁ P s₁.heap (.loc i) (.ref dx) := ⟨dx, rfl, hi⟩
        refine exQ5 (dict_of S₁ e2 hloc) ?_; rintro a' vs ea hs' hD hl1 hvs
        first | exact deadP ea | (refine spP ea ?_; clear ea; rintro rfl rfl) | (refine smP ea ?_; clear ea; rintro rfl) | cases ea
        refine exP3 (look_dict hD) ?_; rintro od ho hlook _
        have hv := (valueAt_zip x hl1 hvs).2
        have hsh : shadowIn (some od) x = some false := by
          show (lookIn x od).map (·.isSome) = _
          rw [hlook]
          show some (valueAt (ks.zip vs) x).isSome = _
          rw [hv]; simpa using hx
        unfold methOk at hm
        simp only [Bool.and_eq_true, beq_iff_eq] at hm
        refine andP2 hm ?_; clear hm; rintro ⟨⟨k1, k2⟩, k3⟩ k4
        have X : c.K.In s₁.heap := K.kin.keeps S₁.base
        refine .bind (.standAt (.bind (.holding (.of (method_fn (prog := c.prog) (w := c.w) X (ox := instObj C' dx) (od := some od) ⟨hgx, rfl, rfl, ho⟩ (plainGet_of k1).1 (plainGet_of k1).2 k2 k3 hsh ?_)))))
        have sa := s_args (pos := pos) ih E es σ₁ _ _ M₁ s₁ g₁.st (F.ext E S g₁.ex) e3
        rw [plain_args (env := env) (pos := pos) e3] at sa
        refine .callWith (sa.mono fun vs s₂ h₂ => ?_)
        refine exP2 h₂ ?_; clear h₂; rintro M₂ g₂ r₂
        exact ⟨looks_keep k4 (K.kin.keeps g₂.st.base), (hs.run _ _ _ _ _ e4 A P M₂ s₂ (.ref xa :: vs) R g₂.st (VRs.cons (r₁'.mono g₂.ex.mono0) r₂)).mono fun w s₃ h₃ => .pre (g₁.trans g₂) h₃⟩
theorem erase_eq (xs : Array Value) (k : Nat) : (xs.eraseIdxIfInBounds k).toList = xs.toList.eraseIdx k := by
  unfold Array.eraseIdxIfInBounds
  split
  · rw [Array.toList_eraseIdx]
  · rename_i h
    rw [List.eraseIdx_of_length_le (by simpa using h)]
theorem VRs.erase : ∀ {l : List DV} {vs : List Value} (k : Nat), VRs c M P h l vs → VRs c M P h (l.eraseIdx k) (vs.eraseIdx k)
  | [], _, k, x => by unfold VRs at x; subst x; exact VRs.nil
  | d :: l, _, 0, x => by
    unfold VRs at x
    refine exQ3 x ?_; clear x; rintro v r rfl _ x3
    exact x3
  | d :: l, _, k + 1, x => by
    unfold VRs at x
    refine exQ3 x ?_; clear x; rintro v r rfl x2 x3
    exact VRs.cons x2 (VRs.erase k x3)
theorem s_app (ih : ES c A env T H n m) (E : EnvOk env T P) {o a : Expr} {apos pos : Pos} (hb : baseOk o = true) (hl : (apos.endLine == pos.line) = true)
    (e : ev H (n + 1) (.app (tr m T o) (tr m T a)) ρ σ = some (d, σ')) (S : St c P M σ s.heap) (F : Frm c env T P M s.heap ρ) :
    W c.M A (eval (.Call (.Attribute o "append" apos) [a] [] pos) env) (Ev c [] P M s σ' d) s := by
  refine bndP e ?_; clear e; rintro d₁ σ₁ e1 e
  refine bnd1 e ?_; clear e; intro i hp e
  cases locD_eq hp; clear hp
  ·
    refine bnd1 e ?_; clear e; rintro l₀ e0 e
    refine bndP e ?_; clear e; rintro d₂ σ₂ e2 e
    refine bnd1 e ?_; clear e; intro l hσ e
    replace hσ := listAt_eq hσ
    ·
      refine ifP e ?_; clear e; intro hz e
      ·
        first | exact deadP e | (refine spP e ?_; clear e; rintro rfl rfl) | (refine smP e ?_; clear e; rintro rfl) | cases e
        have e2' : evL (fun e s => ev H n e ρ s) ([a].map (tr m T)) σ₁ = some ([d₂], σ₂) := by
          show (ev H n (tr m T a) ρ σ₁).bind _ = _
          rw [e2]; rfl
        refine exP1 (meth_tree (env := env) (x := "append") hb hl (by simp) (plain_args (env := env) (pos := pos) e2')) ?_; rintro pl hev
        rw [hev]
        refine .bind ((ih o ρ σ _ _ e1 P M s E S F).mono fun v s₁ h₁ => ?_)
        refine exP2 h₁.to ?_; rintro M₁ g₁ r₁
        refine exR3 (lst_of_items g₁.st e0 r₁) ?_; rintro a₁ vs₀ n₀ rfl hg _
        refine .bind (.standAt (.bind (.holding (.of (getMethod_builtin (T := "list") ⟨_, hg, rfl⟩ _root_.PySem.F.plainAttrs_list slot_list_append type_list_append (fun a e => by cases e; exact ⟨_, hg, rfl⟩) ?_)))))
        have sa := s_args (pos := pos) ih E [a] σ₁ _ _ M₁ s₁ g₁.st (F.ext E S g₁.ex) e2'
        rw [plain_args (env := env) (pos := pos) e2'] at sa
        refine .callWith (sa.mono fun vs s₂ h₂ => ⟨keeper_plain (by intro _ q; cases q), ?_⟩)
        refine exP2 h₂ ?_; clear h₂; rintro M₂ g₂ r₂
        refine exP2 (VRs.one (s := s₂) r₂) ?_; rintro v rfl rv
        refine exP2 (r₁.mono g₂.ex.mono0) ?_; rintro _ ea hi
        first | exact deadP ea | (refine spP ea ?_; clear ea; rintro rfl rfl) | (refine smP ea ?_; clear ea; rintro rfl) | cases ea
        refine exQ2 (g₂.st.get hi hσ) ?_; rintro vs k hg₂ hvs
        have hlen := hvs.length
        simp only [Array.length_toList] at hlen
        have hb' : big ≤ 16777216 - 1 := by decide
        refine .of (wpAny_call_entry slot_list_append (T := "list") ⟨_, hg₂, rfl⟩ entry_list_append ?_ (args_list_append _ _))
        show wpAny _ _ (updateSeq a₁ (·.push v) >>= fun _ => ret .none) _ _ s₂
        have fin : ∃ k', (s₂.heap.update a₁ (Obj.mapSeq (·.push v))).get? a₁ = some (lstO (vs.push v) k') := ⟨_, Heap.get?_update_self _ hg₂ rfl⟩
        refine wpAny_bind (wpAny_updateSeq hg₂ rfl (wpAny_pure ⟨.none, rfl, ?_⟩) (by rw [sizeLine_eq]; lia) (by rw [Array.size_push, sizeLine_eq]; lia))
        refine .pre (g₁.trans g₂) (.of (Go.set (tk := s₂.toks) g₂.st hi (fun b ob hne q => (Heap.get?_update_other _ _ (Ne.symm hne)).trans q) fun mo => ?_) (by unfold VR; rfl))
        refine exP1 fin ?_; clear fin; rintro k' hk'
        refine ⟨_, _, hk', ?_⟩
        rw [Array.toList_push]
        exact (hvs.mono mo).append (VRs.cons (VR.mono mo rv) VRs.nil)
theorem s_pop (ih : ES c A env T H n m) (E : EnvOk env T P) {o a : Expr} {apos pos : Pos} (hb : baseOk o = true) (hl : (apos.endLine == pos.line) = true)
    (e : ev H (n + 1) (.pop (tr m T o) (tr m T a)) ρ σ = some (d, σ')) (S : St c P M σ s.heap) (F : Frm c env T P M s.heap ρ) :
    W c.M A (eval (.Call (.Attribute o "pop" apos) [a] [] pos) env) (Ev c [] P M s σ' d) s := by
  refine bndP e ?_; clear e; rintro d₁ σ₁ e1 e
  refine bnd1 e ?_; clear e; intro i hp e
  cases locD_eq hp; clear hp
  ·
    refine bnd1 e ?_; clear e; rintro l₀ e0 e
    refine bndP e ?_; clear e; rintro d₂ σ₂ e2 e
    refine bnd1 e ?_; clear e; intro j hp e
    cases intD_eq hp; clear hp
    refine bnd1 e ?_; clear e; intro l hσ e
    replace hσ := listAt_eq hσ
    ·
      refine ifP e ?_; clear e; intro hz e
      ·
        refine bnd1 e ?_; clear e; rintro d₃ e3 e4
        first | exact deadP e4 | (refine spP e4 ?_; clear e4; rintro rfl rfl) | (refine smP e4 ?_; clear e4; rintro rfl) | cases e4
        have e2' : evL (fun e s => ev H n e ρ s) ([a].map (tr m T)) σ₁ = some ([.int j], σ₂) := by
          show (ev H n (tr m T a) ρ σ₁).bind _ = _
          rw [e2]; rfl
        refine exP1 (meth_tree (env := env) (x := "pop") hb hl (by simp) (plain_args (env := env) (pos := pos) e2')) ?_; rintro pl hev
        rw [hev]
        refine .bind ((ih o ρ σ _ _ e1 P M s E S F).mono fun v s₁ h₁ => ?_)
        refine exP2 h₁.to ?_; rintro M₁ g₁ r₁
        refine exR3 (lst_of_items g₁.st e0 r₁) ?_; rintro a₁ vs₀ n₀ rfl hg _
        refine .bind (.standAt (.bind (.holding (.of (getMethod_builtin (T := "list") ⟨_, hg, rfl⟩ _root_.PySem.F.plainAttrs_list _root_.PySem.F.slot_list_pop _root_.PySem.F.type_list_pop (fun a e => by cases e; exact ⟨_, hg, rfl⟩) ?_)))))
        have sa := s_args (pos := pos) ih E [a] σ₁ _ _ M₁ s₁ g₁.st (F.ext E S g₁.ex) e2'
        rw [plain_args (env := env) (pos := pos) e2'] at sa
        refine .callWith (sa.mono fun vs s₂ h₂ => ⟨keeper_plain (by intro _ q; cases q), ?_⟩)
        refine exP2 h₂ ?_; clear h₂; rintro M₂ g₂ r₂
        obtain ⟨v, rfl, t, rfl⟩ := VRs.one (s := s₂) r₂
        refine exP2 (r₁.mono g₂.ex.mono0) ?_; rintro _ ea hi
        first | exact deadP ea | (refine spP ea ?_; clear ea; rintro rfl rfl) | (refine smP ea ?_; clear ea; rintro rfl) | cases ea
        refine exQ2 (g₂.st.get hi hσ) ?_; rintro vs k hg₂ hvs
        have hlen := hvs.length
        simp only [Array.length_toList] at hlen
        have hb' : big ≤ 16777216 - 1 := by decide
        refine exP2 (hvs.get e3) ?_; rintro y hy hr
        rw [Array.getElem?_toList] at hy
        have hlt := (Array.getElem?_eq_some_iff.mp hy).1
        have fits : Builtin.List.listFitsIndex j = true := by
          have : (big : Int) = 100000 := rfl
          simp [Builtin.List.listFitsIndex]; lia
        refine .of (call_meets _root_.PySem.F.slot_list_pop ⟨_, hg₂, rfl⟩ _root_.PySem.F.entry_list_pop (_root_.PySem.F.args_list_pop_2 _ _) (MeetsSeq.list_pop_at a₁ vs k j t j.toNat y fits (seqIndex_nn hz.1 hlt) hy (by rw [sizeLine_eq]; lia)) ⟨hg₂, ?_⟩)
        have fin : ∃ k', (s₂.heap.update a₁ (Obj.mapSeq fun xs => xs.eraseIdxIfInBounds j.toNat)).get? a₁ = some (lstO (vs.eraseIdxIfInBounds j.toNat) k') := ⟨_, Heap.get?_update_self _ hg₂ rfl⟩
        refine exP1 fin ?_; clear fin; rintro k' hk'
        have gs := Go.set (tk := s₂.toks) (o := .list (l.eraseIdx j.toNat)) g₂.st hi (fun b ob hne q => (Heap.get?_update_other _ _ (Ne.symm hne)).trans q) (h' := s₂.heap.update a₁ (Obj.mapSeq fun xs => xs.eraseIdxIfInBounds j.toNat)) fun mo => ⟨_, _, hk', by rw [erase_eq]; exact (hvs.mono mo).erase _⟩
        exact .pre (g₁.trans g₂) (.of gs (hr.mono gs.ex.mono0))
theorem s_dget (ih : ES c A env T H n m) (E : EnvOk env T P) {o a : Expr} {apos pos : Pos} (hb : baseOk o = true) (hl : (apos.endLine == pos.line) = true)
    (e : ev H (n + 1) (.dget (tr m T o) (tr m T a)) ρ σ = some (d, σ')) (S : St c P M σ s.heap) (F : Frm c env T P M s.heap ρ) :
    W c.M A (eval (.Call (.Attribute o "get" apos) [a] [] pos) env) (Ev c [] P M s σ' d) s := by
  refine bndP e ?_; clear e; rintro d₁ σ₁ e1 e
  refine bndP e ?_; clear e; rintro ks₀ l₀ e0 e
  refine bndP e ?_; clear e; rintro d₂ σ₂ e2 e
  refine bnd1 e ?_; clear e; intro x hp e
  cases strD_eq hp; clear hp
  ·
    refine bndP e ?_; clear e; rintro ks l e3 e4
    cases e4
    have e2' : evL (fun e s => ev H n e ρ s) ([a].map (tr m T)) σ₁ = some ([.str x], σ₂) := by
      show (ev H n (tr m T a) ρ σ₁).bind _ = _
      rw [e2]; rfl
    refine exP1 (meth_tree (env := env) (x := "get") hb hl (by simp) (plain_args (env := env) (pos := pos) e2')) ?_; rintro pl hev
    rw [hev]
    refine .bind ((ih o ρ σ _ _ e1 P M s E S F).mono fun v s₁ h₁ => ?_)
    refine exP2 h₁.to ?_; rintro M₁ g₁ r₁
    refine exQ4 (dict_of g₁.st e0 r₁) ?_; rintro a₁ vs₀ rfl hsys hD _
    refine .bind (.standAt (.bind (.holding (.of (getMethod_builtin (T := "dict") hD.typeIs _root_.PySem.F.plainAttrs_dict _root_.PySem.F.slot_dict_get _root_.PySem.F.type_dict_get hD.mapOf.noDict ?_)))))
    have sa := s_args (pos := pos) ih E [a] σ₁ _ _ M₁ s₁ g₁.st (F.ext E S g₁.ex) e2'
    rw [plain_args (env := env) (pos := pos) e2'] at sa
    refine .callWith (sa.mono fun vs s₂ h₂ => ⟨keeper_plain (by intro _ q; cases q), ?_⟩)
    refine exP2 h₂ ?_; clear h₂; rintro M₂ g₂ r₂
    obtain ⟨v, rfl, t, rfl⟩ := VRs.one (s := s₂) r₂
    refine exQ5 (dict_of g₂.st e3 (r₁.mono g₂.ex.mono0)) ?_; rintro _ vs ea _ hD₂ hl₂ hvs
    first | exact deadP ea | (refine spP ea ?_; clear ea; rintro rfl rfl) | (refine smP ea ?_; clear ea; rintro rfl) | cases ea
    have hv : AtOk c _ _ _ _ _ := (valueAt_zip x hl₂ hvs).1
    refine .of (call_meetsIn _root_.PySem.F.slot_dict_get hD₂.typeIs _root_.PySem.F.entry_dict_get (_root_.PySem.F.args_dict_get_2 _ _) (meets_dict_get c.kd a₁ (is_str x t) (by simpa using hsys)) ⟨_, hD₂.mapOf, ?_⟩)
    refine .pre (g₁.trans g₂) (.here g₂.st ?_)
    cases q : lookD x ks l with
    | some d₃ =>
      rw [q] at hv
      refine exP2 hv ?_; clear hv; rintro u hu hr
      rw [hu]; exact hr
    | none =>
      rw [q] at hv
      rw [show _ = none from hv]
      show VR _ _ _ _ .none _
      unfold VR; rfl
end
end
section
noncomputable def TVal (c : Cx) (M P : List Addr) (h : Heap) (two : Bool) (ds : List DV) (v : Value) : Prop :=
  if two then ∃ a vals, v = .ref a ∧ h.IsTuple a vals ∧ VRs c M P h ds vals.toList else ∃ d, ds = [d] ∧ VR c M P h d v
inductive TgOk (T : Tb) : Expr → Bool → List Nat → Prop
  | one (x : Str) (p : Pos) (i : Nat) (h : T.var x = some i) : TgOk T (.Name x p) false [i]
  | two (x y : Str) (p q pos : Pos) (k i j : Nat) (h1 : T.var x = some i) (h2 : T.var y = some j) (h3 : x ≠ y) : TgOk T (.Tuple [.Name x p, .Name y q] k pos) true [i, j]
section
variable {c : Cx} {A : Around} {P P' M M₁ M₂ O : List Addr} {σ σ' σ₁ σ₂ : Sg} {h h' : Heap} {s s₁ s₂ : Shared} {env : Env} {T : Tb} {ρ ρ' : Rho} {d d₁ d₂ : DV} {H : Hd} {n m : Nat}
theorem bind_var {x : Str} {i : Nat} {v : Value} {Q : Unit → Shared → Prop} {E' : Value → Shared → Prop} (E : EnvOk env T P) (S : St c P M σ s.heap) (F : Frm c env T P M s.heap ρ) (hi : T.var x = some i) (hl : i < ρ.length)
    (hO : OwnV env T O x) (hP : ∀ a ∈ O, a ∈ P) (hv : VR c M P s.heap d v)
    (q : ∀ s', Go c O P M s M σ s' → Mono M M P P s.heap s'.heap → Frm c env T P M s'.heap (ρ.set i (some d)) → Q () s') : wpAny c.M A (bindName env x v) Q E' s :=
  wpAny_bind (wpAny_holding (wpAny_point (wpAny_bind (st_var E S F hi hl hO hP hv fun h' tk a b f => wpAny_point (q _ ⟨a, b, rfl, rfl⟩ (b.mono hP) f)))))
theorem a_name {x : Str} {pos : Pos} {i : Nat} {v : Value} {Q : Unit → Shared → Prop} {E' : Value → Shared → Prop} (E : EnvOk env T P) (S : St c P M σ s.heap) (F : Frm c env T P M s.heap ρ) (hi : T.var x = some i) (hl : i < ρ.length)
    (hO : OwnV env T O x) (hP : ∀ a ∈ O, a ∈ P) (hv : VR c M P s.heap d v)
    (q : ∀ s', Go c O P M s M σ s' → Mono M M P P s.heap s'.heap → Frm c env T P M s'.heap (ρ.set i (some d)) → Q () s') : wpAny c.M A (assign (.Name x pos) env v) Q E' s :=
  wpAny_bind (wpAny_standAt (bind_var E S F hi hl hO hP hv q))
theorem Keep.ofNew {h h' : Heap} (x : Heap.ExtBut h.objs.size h h') : Keep h h' := fun b o e => x b o (Nat.ne_of_lt (Heap.lt_size e)) e
theorem Go.frm {tk : Tok} (S : St c P M σ s.heap) (F : Frm c env T P M s.heap ρ) (k : Keep s.heap h') : Frm c env T P M h' ρ := F.keep k.mono fun _ _ o e => k _ _ e
theorem a_target {target : Expr} {two : Bool} {vs : List Nat} {ds : List DV} {v : Value} {Q : Unit → Shared → Prop} {E' : Value → Shared → Prop} (hh : A.handled = none) (tg : TgOk T target two vs) (E : EnvOk env T P) (S : St c P M σ s.heap) (F : Frm c env T P M s.heap ρ)
    (hO : ∀ x i, T.var x = some i → i ∈ vs → OwnV env T O x) (hP : ∀ a ∈ O, a ∈ P) (hv : TVal c M P s.heap two ds v) (he : setAll ρ vs ds = some ρ')
    (q : ∀ s', Go c O P M s M σ s' → Mono M M P P s.heap s'.heap → Frm c env T P M s'.heap ρ' → Q () s') : wpAny c.M A (assign target env v) Q E' s := by
  cases tg with
  | one x p i hi =>
    refine exP2 hv ?_; clear hv; rintro d rfl r
    refine ifP he ?_; clear he; intro hl he
    cases he
    exact a_name E S F hi hl (hO _ _ hi (by simp)) hP r q
  | two x y p q' pos k i j hi hj hxy =>
    refine exQ3 hv ?_; clear hv; rintro a vals rfl ht hvs
    match ds, hvs, he with
    | [], _, he => cases he
    | [_], _, he => exact ifP he fun _ he => by cases he
    | d₁ :: d₂ :: r, hvs, he =>
      refine ifP he ?_; clear he; intro hl1 he
      · refine ifP he ?_; clear he; intro hl2 he
        · skip
          cases r with
          | cons _ _ => cases he
          | nil =>
            first | exact deadP he | (refine spP he ?_; clear he; rintro rfl rfl) | (refine smP he ?_; clear he; rintro rfl) | cases he
            refine exQ3 (VRs.two (s := s) hvs) ?_; rintro v₁ v₂ ev r₁ r₂
            have hsz : vals.size = 2 := by rw [← Array.length_toList, ev]; rfl
            refine wpAny_assign_Tuple hh ht (by rw [hsz]; rfl) rfl fun h' hx => ?_
            rw [ev]
            have k := Keep.ofNew hx
            show wpAny _ _ (holding [v₁, v₂].tail (assign (.Name x p) env v₁) >>= fun _ => holding [] (assign (.Name y q') env v₂) >>= fun _ => pure ()) _ _ _
            have g0 : Go c O P M s M σ { s with heap := h' } := Go.keep (tk := s.toks) S k
            refine wpAny_bind (wpAny_holding (a_name E g0.st (Go.frm (tk := 0) S F k) hi hl1 (hO _ _ hi (by simp)) hP (r₁.mono k.mono) fun s₁ g₁ m₁ F₁ => ?_))
            have hr2 := (r₂.mono k.mono).mono m₁
            refine wpAny_bind (wpAny_holding (a_name E g₁.st F₁ hj hl2 (hO _ _ hj (by simp)) hP hr2 fun s₂ g₂ m₂ F₂ => wpAny_pure ?_))
            have g := (g0.trans g₁).trans g₂
            exact q s₂ g (g.ex.mono hP) F₂
end
structure Wk (c : Cx) (A : Around) (target : Expr) (two : Bool) (I : Addr) (wr P : List Addr) (Now : Nat → Sg → List DV → Prop) (End : Nat → Sg → Prop) (Pre : Nat → List Addr → Heap → Prop) : Prop where
  mono : ∀ i M M' h h', Pre i M h → Mono M M' P P h h' → (∀ b ∈ wr, ∀ o, h.get? b = some o → h'.get? b = some o) → Pre i M' h'
  turn : ∀ i M σ ds (s : Shared) (Q : Value → Shared → Prop), Now i σ ds → St c P M σ s.heap → Pre i M s.heap →
    (∀ v h' tk, (∀ b o, b ∉ wr → s.heap.get? b = some o → h'.get? b = some o) → (∀ b ∈ wr, ∃ o, h'.get? b = some o) → Pre (i + 1) M h' → TVal c M P h' two ds v → Q v { s with heap := h', toks := tk }) →
    wpAny c.M A (pyNext (.ref I)) (fun r s₁ => match r with
      | none => False
      | some v => wpAny c.M A (letOwnedTupleGo target (.ref I) v) (fun _ s₂ => Q v s₂) (fun _ _ => False) s₁) (fun _ _ => False) s
  done : ∀ i M σ (s : Shared) (Q : Option Value → Shared → Prop), End i σ → St c P M σ s.heap → Pre i M s.heap →
    (∀ h' tk, (∀ b o, b ∉ wr → s.heap.get? b = some o → h'.get? b = some o) → Q none { s with heap := h', toks := tk }) → wpAny c.M A (pyNext (.ref I)) Q (fun _ _ => False) s
  self : ∀ i M (s : Shared) (Q : Value → Shared → Prop), Pre i M s.heap → Q (.ref I) s → wpAny c.M A (pyIter (.ref I)) Q (fun _ _ => False) s
end
section
section
variable {c : Cx} {A : Around} {P P' M M₁ M₂ O wr fp : List Addr} {σ σ' σ₁ σ₂ : Sg} {h h' : Heap} {s s₁ s₂ : Shared} {env : Env} {T : Tb} {ρ ρ' : Rho} {d d₁ d₂ : DV} {H : Hd} {n m : Nat}
theorem off_mono (hw : ∀ b ∈ wr, b ∈ P) (k : ∀ b o, b ∉ wr → h.get? b = some o → h'.get? b = some o) : Mono M M P P h h' :=
  ⟨List.prefix_refl _, fun a o h1 h2 e => ⟨k a o (fun z => h2 (hw a z)) e, h1, h2⟩⟩
theorem St.drop (S : St c P M σ h) (k : ∀ b o, b ∉ wr → h.get? b = some o → h'.get? b = some o) (hw : ∀ b ∈ wr, b ∈ P) (hP : ∀ b ∈ P', b ∈ P) (hd : ∀ b ∈ P', b ∉ wr) : St c P' M σ h' := by
  have mo : Mono M M P P' h h' := ⟨List.prefix_refl _, fun a o h1 h2 e => ⟨k a o (fun z => h2 (hw a z)) e, h1, fun z => h2 (hP a z)⟩⟩
  have hm : ∀ a ∈ M, a ∉ wr := fun a ha z => (S.off a (hw a z)).1 ha
  refine ⟨fun b o e => k b o (fun z => ?_) (S.base b o e), S.len, fun i a o h1 h2 => (S.objs i a o h1 h2).mono mo fun o e => k a o (hm a (List.mem_of_getElem? h1)) e, S.nd, S.new, fun a ha => S.off a (hP a ha), fun a ha => ?_, S.nl⟩
  · rw [(S.off b (hw b z)).2] at e; cases e
  · refine exP1 (S.live a (hP a ha)) ?_; rintro o ho
    exact ⟨o, k a o (hd a ha) ho⟩
theorem St.turned (S : St c P M σ h) (k : ∀ b o, b ∉ wr → h.get? b = some o → h'.get? b = some o) (hw : ∀ b ∈ wr, b ∈ P) (hl : ∀ b ∈ wr, ∃ o, h'.get? b = some o) : St c P M σ h' := by
  have mo : Mono M M P P h h' := off_mono hw k
  have hm : ∀ a ∈ M, a ∉ wr := fun a ha z => (S.off a (hw a z)).1 ha
  refine ⟨fun b o e => k b o (fun z => ?_) (S.base b o e), S.len, fun i a o h1 h2 => (S.objs i a o h1 h2).mono mo fun o e => k a o (hm a (List.mem_of_getElem? h1)) e, S.nd, S.new, S.off, fun a ha => ?_, S.nl⟩
  · rw [(S.off b (hw b z)).2] at e; cases e
  · by_cases z : a ∈ wr
    · exact hl a z
    · refine exP1 (S.live a ha) ?_; rintro o ho
      exact ⟨o, k a o z ho⟩
noncomputable def Side (c : Cx) (fp wr P : List Addr) (J : List Addr → Heap → Prop) (M : List Addr) (h : Heap) : Prop := J M h ∧ ∀ b ∈ fp, b ∉ wr → b ∉ M ∧ b ∉ P ∧ ∃ o, h.get? b = some o
theorem Side.mono {J : List Addr → Heap → Prop} (x : Side c fp wr P J M h) (jm : ∀ M M' h h', J M h → Mono M M' P P h h' → J M' h') {M' : List Addr} (mo : Mono M M' P P h h') : Side c fp wr P J M' h' :=
  ⟨jm _ _ _ _ x.1 mo, fun b hb hw => by
    obtain ⟨a1, a2, o, a3⟩ := x.2 b hb hw
    refine andP3 (mo.pure b o a1 a2 a3) ?_; rintro b1 b2 b3
    exact ⟨b2, b3, o, b1⟩⟩
theorem Wk.ofWalks {target : Expr} {two : Bool} {I : Addr} {its : List (List DV)} {Pt : Nat → Value → Prop} {S0 : Nat → Heap → Prop} {J : List Addr → Heap → Prop} (W : Walks c.prog c.w A I fp wr its.length Pt S0)
    (hgo : ∀ i v (s : Shared) (Q : Unit → Shared → Prop), S0 i s.heap → Q () s → wpAny c.M A (letOwnedTupleGo target (.ref I) v) Q (fun _ _ => False) s)
    (jm : ∀ M M' h h', J M h → Mono M M' P P h h' → J M' h') (val : ∀ i v h M, i < its.length → Pt i v → J M h → ∃ ds, its[i]? = some ds ∧ TVal c M P h two ds v)
    (hw : ∀ b ∈ wr, b ∈ P) (live : ∀ i h, S0 i h → ∀ b ∈ wr, ∃ o, h.get? b = some o) :
    Wk c A target two I wr P (fun i _ ds => its[i]? = some ds) (fun i _ => i = its.length) (fun i M h => S0 i h ∧ Side c fp wr P J M h) where
  mono := fun i M M' h h' x mo k => ⟨W.frame _ _ _ x.1 fun b hb o e => by
      by_cases z : b ∈ wr
      · exact k b z o e
      · refine andP3 (x.2.2 b hb z) ?_; rintro a1 a2 _
        exact (mo.pure b o a1 a2 e).1, x.2.mono jm mo⟩
  turn := fun i M σ ds s Q hn S x hQ => by
    have hi := (List.getElem?_eq_some_iff.mp hn).1
    refine W.item i s _ _ hi x.1 fun v h' tk hP st' k => ?_
    have mo := off_mono (M := M) hw k
    refine exP2 (val i v h' M hi hP (jm _ _ _ _ x.2.1 mo)) ?_; rintro ds' e1 e2
    rw [hn] at e1; cases e1
    exact hgo (i + 1) v { s with heap := h', toks := tk } _ st' (hQ v h' tk k (live _ _ st') ⟨st', x.2.mono jm mo⟩ e2)
  done := fun i M σ s Q he S x hQ => by
    subst he
    exact W.done s Q _ x.1 hQ
  self := fun i M s Q x q => W.self i s Q _ x.1 q
theorem Wk.ofWalksT {elts : List Expr} {k : Nat} {pos : Pos} {I : Addr} {its : List (List DV)} {Pt : Nat → Array Value → Prop} {S0 : Nat → Heap → Prop} {Mid : Nat → Addr → Heap → Prop} {J : List Addr → Heap → Prop} (W : WalksT c.prog c.w A I fp wr its.length Pt S0 Mid)
    (jm : ∀ M M' h h', J M h → Mono M M' P P h h' → J M' h') (val : ∀ i vals h M, i < its.length → Pt i vals → J M h → ∃ ds, its[i]? = some ds ∧ VRs c M P h ds vals.toList)
    (hw : ∀ b ∈ wr, b ∈ P) (live : ∀ i h, S0 i h → ∀ b ∈ wr, ∃ o, h.get? b = some o) :
    Wk c A (.Tuple elts k pos) true I wr P (fun i _ ds => its[i]? = some ds) (fun i _ => i = its.length) (fun i M h => S0 i h ∧ Side c fp wr P J M h) where
  mono := fun i M M' h h' x mo k => ⟨W.frame _ _ _ x.1 fun b hb o e => by
      by_cases z : b ∈ wr
      · exact k b z o e
      · refine andP3 (x.2.2 b hb z) ?_; rintro a1 a2 _
        exact (mo.pure b o a1 a2 e).1, x.2.mono jm mo⟩
  turn := fun i M σ ds s Q hn S x hQ => by
    have hi := (List.getElem?_eq_some_iff.mp hn).1
    refine W.item i s _ _ hi x.1 fun Tp vals h' tk hP _ hT hm k1 => ?_
    refine W.go elts k pos i Tp { s with heap := h', toks := tk } _ _ hm fun h'' st' k2 => ?_
    have kk : ∀ b o, b ∉ wr → s.heap.get? b = some o → h''.get? b = some o := fun b o z e => k2 b o z (k1 b o z e)
    have mo := off_mono (M := M) hw kk
    refine exP2 (val i vals h'' M hi hP (jm _ _ _ _ x.2.1 mo)) ?_; rintro ds' e1 e2
    rw [hn] at e1; cases e1
    exact hQ (.ref Tp) h'' tk kk (live _ _ st') ⟨st', x.2.mono jm mo⟩ ⟨Tp, vals, rfl, hT.at fun o e => k2 Tp o (W.apart i Tp _ hm) e, e2⟩
  done := fun i M σ s Q he S x hQ => by
    subst he
    exact W.done s Q _ x.1 hQ
  self := fun i M s Q x q => W.self i s Q _ x.1 q
noncomputable def Begun (c : Cx) (A : Around) (target : Expr) (two : Bool) (P M : List Addr) (s : Shared) (Now0 : Nat → Sg → List DV → Prop) (End0 : Nat → Sg → Prop) (it : Value) (s' : Shared) : Prop :=
  ∃ (I : Addr) (wr : List Addr) (Pre : List Addr → Nat → List Addr → Heap → Prop), it = .ref I ∧ (∀ X, Wk c A target two I wr (X ++ (wr ++ P)) Now0 End0 (Pre X)) ∧ Keep s.heap s'.heap ∧ s'.gens = s.gens ∧ s'.os = s.os ∧ (∀ b ∈ wr, s.heap.get? b = none ∧ ∃ o, s'.heap.get? b = some o) ∧
    ∀ X, (∀ b ∈ X, s'.heap.get? b = none) → Pre X 0 M s'.heap
theorem in_wr {wr P : List Addr} : ∀ b ∈ wr, b ∈ wr ++ P := fun b hb => List.mem_append_left _ hb
theorem in_wrX {X wr P : List Addr} : ∀ b ∈ wr, b ∈ X ++ (wr ++ P) := fun b hb => List.mem_append_right _ (List.mem_append_left _ hb)
theorem go_name {x : Str} {p : Pos} {it v : Value} {s : Shared} {Q : Unit → Shared → Prop} (q : Q () s) : wpAny c.M A (letOwnedTupleGo (.Name x p) it v) Q (fun _ _ => False) s := wpAny_pure q
theorem go_other {I : Addr} {target : Expr} {o : Obj} {n : String} {v : Value} {s : Shared} {Q : Unit → Shared → Prop} (ho : s.heap.get? I = some o) (hc : o.cls = .type n)
    (hn : (["enumerate", "zip", "dict_itemiterator", "dict_reverseitemiterator", "odict_iterator", "itertools.zip_longest", "itertools.pairwise"].contains n) = false) (q : Q () s) : wpAny c.M A (letOwnedTupleGo target (.ref I) v) Q (fun _ _ => False) s := by
  cases target with
  | Tuple _ _ _ =>
    cases v with
    | ref a =>
      delta letOwnedTupleGo
      dsimp only
      refine wpAny_bind (wpAny_load ho ?_)
      obtain ⟨cls, d, data, st⟩ := o
      have hc : cls = .type n := hc
      subst hc
      cases data with
      | fields vs =>
        dsimp only
        rw [hn]
        exact wpAny_pure q
      | _ => exact wpAny_pure q
    | _ => exact wpAny_pure q
  | List _ _ =>
    cases v with
    | ref a =>
      delta letOwnedTupleGo
      dsimp only
      refine wpAny_bind (wpAny_load ho ?_)
      obtain ⟨cls, d, data, st⟩ := o
      have hc : cls = .type n := hc
      subst hc
      cases data with
      | fields vs =>
        dsimp only
        rw [hn]
        exact wpAny_pure q
      | _ => exact wpAny_pure q
    | _ => exact wpAny_pure q
  | _ => exact wpAny_pure q
theorem enter_mono (S : St c P M σ s.heap) (k : Keep s.heap h') (hn : ∀ b ∈ wr, s.heap.get? b = none) : Mono M M P (wr ++ P) s.heap h' := Mono.enter k fun b hb => by
  rcases List.mem_append.mp hb with hb | hb
  · exact .inr (hn b hb)
  · exact .inl hb
theorem enter_monoX {X : List Addr} (S : St c P M σ s.heap) (k : Keep s.heap h') (hn : ∀ b ∈ wr, s.heap.get? b = none) (hX : ∀ b ∈ X, h'.get? b = none) : Mono M M P (X ++ (wr ++ P)) s.heap h' := Mono.enter k fun b hb => by
  rcases List.mem_append.mp hb with hb | hb
  · refine .inr ?_
    cases e : s.heap.get? b with
    | none => rfl
    | some o => have := k _ _ e; rw [hX b hb] at this; cases this
  · rcases List.mem_append.mp hb with hb | hb
    · exact .inr (hn b hb)
    · exact .inl hb
theorem not_X {X : List Addr} {b : Addr} {o : Obj} (hX : ∀ b ∈ X, h'.get? b = none) (e : h'.get? b = some o) : b ∉ X := fun z => by rw [hX b z] at e; cases e
theorem single_its {l : List DV} {i : Nat} {d : DV} (e : l[i]? = some d) : (l.map ([·]))[i]? = some [d] := by rw [List.getElem?_map, e]; rfl
theorem begin_list {target : Expr} {x : Str} {p : Pos} (ht : target = .Name x p) (hh : A.handled = none) {l : List DV} {v : Value} (S : St c P M σ s.heap) (r : VR c M P s.heap (.lst l) v) {Q : Value → Shared → Prop}
    (q : ∀ it s', Begun c A target false P M s (fun i _ ds => (l.map ([·]))[i]? = some ds) (fun i _ => i = (l.map ([·])).length) it s' → Q it s') : wpAny c.M A (pyIter v) Q (fun _ _ => False) s := by
  subst ht
  obtain ⟨a, vs, k, rfl, ha1, ha2, g, hvs⟩ := r
  refine wpAny_pyIter_list (isList g) (q _ _ ?_)
  have hlt := Heap.lt_size g
  have hn : s.heap.get? s.heap.objs.size = none := none_of_size
  have kp : Keep s.heap (s.heap.push { cls := .type "list_iterator", data := .fields #[.ref a, .int 0 0] }) := Keep.push _
  have hl := hvs.length
  simp only [Array.length_toList] at hl
  have W := Walks.list (prog := c.prog) (w := c.w) hh s.heap.objs.size a (Nat.ne_of_lt hlt) vs
  rw [show vs.size = (l.map ([·])).length by rw [List.length_map]; lia] at W
  refine ⟨_, [s.heap.objs.size], _, rfl, fun X => Wk.ofWalks W (fun _ _ _ _ _ q => go_name q) (J := fun M h => VRs c M (X ++ ([s.heap.objs.size] ++ P)) h l vs.toList) (fun _ _ _ _ x mo => x.mono mo) ?_ in_wrX ?_, kp, rfl, rfl, ?_, fun X hX => ⟨⟨⟨_, Heap.get?_push_size _ rfl, rfl, rfl⟩, isList (kp _ _ g)⟩, ?_, ?_⟩⟩
  · intro i v h M' hi hv hJ
    rw [List.length_map] at hi
    refine exP2 (hJ.get (List.getElem?_eq_getElem hi)) ?_; rintro u hu hr
    rw [Array.getElem?_toList, hv] at hu
    first | exact deadP hu | (refine spP hu ?_; clear hu; rintro rfl rfl) | (refine smP hu ?_; clear hu; rintro rfl) | cases hu
    exact ⟨_, single_its (List.getElem?_eq_getElem hi), _, rfl, hr⟩
  · rintro i h ⟨⟨o, ho, _⟩, _⟩ b hb
    rw [List.mem_singleton.mp hb]; exact ⟨o, ho⟩
  · intro b hb
    rw [List.mem_singleton.mp hb]; exact ⟨hn, _, Heap.get?_push_size _ rfl⟩
  · exact hvs.mono (enter_monoX S kp (fun b hb => by rw [List.mem_singleton.mp hb]; exact hn) hX)
  · intro b hb hw
    simp only [List.mem_cons, List.not_mem_nil, or_false] at hb hw
    rcases hb with rfl | rfl
    · exact absurd rfl hw
    · exact ⟨ha1, by simp [Nat.ne_of_lt hlt, ha2, not_X hX (kp _ _ g)], _, kp _ _ g⟩
theorem begin_tup {target : Expr} {two : Bool} (hh : A.handled = none) {l : List DV} {its : List (List DV)} {v : Value} (hits : its.length = l.length) (S : St c P M σ s.heap) (r : VR c M P s.heap (.tup l) v)
    (val : ∀ (i : Nat) (v : Value) (h : Heap) (M : List Addr) (P : List Addr) (d : DV), l[i]? = some d → VR c M P h d v → ∃ ds, its[i]? = some ds ∧ TVal c M P h two ds v) {Q : Value → Shared → Prop}
    (q : ∀ it s', Begun c A target two P M s (fun i _ ds => its[i]? = some ds) (fun i _ => i = its.length) it s' → Q it s') : wpAny c.M A (pyIter v) Q (fun _ _ => False) s := by
  obtain ⟨a, vs, k, rfl, ha1, ha2, g, hvs⟩ := r
  refine wpAny_pyIter_tuple (isTuple g) (q _ _ ?_)
  have hlt := Heap.lt_size g
  have hn : s.heap.get? s.heap.objs.size = none := none_of_size
  have kp : Keep s.heap (s.heap.push { cls := .type "tuple_iterator", data := .fields #[.ref a, .int 0 0] }) := Keep.push _
  have hl := hvs.length
  simp only [Array.length_toList] at hl
  have W := Walks.tuple (prog := c.prog) (w := c.w) hh s.heap.objs.size a (Nat.ne_of_lt hlt) vs
  rw [show vs.size = its.length by lia] at W
  refine ⟨_, [s.heap.objs.size], _, rfl, fun X => Wk.ofWalks W (fun _ _ s' Q st q => ?_) (J := fun M h => VRs c M (X ++ ([s.heap.objs.size] ++ P)) h l vs.toList) (fun _ _ _ _ x mo => x.mono mo) ?_ in_wrX ?_, kp, rfl, rfl, ?_, fun X hX => ⟨⟨⟨_, Heap.get?_push_size _ rfl, rfl, rfl⟩, isTuple (kp _ _ g)⟩, ?_, ?_⟩⟩
  · refine andP2 st ?_; clear st; rintro ⟨o, ho, hc, _⟩ _
    exact go_other ho hc (by decide +kernel) q
  · intro i v h M' hi hv hJ
    rw [hits] at hi
    refine exP2 (hJ.get (List.getElem?_eq_getElem hi)) ?_; rintro u hu hr
    rw [Array.getElem?_toList, hv] at hu
    first | exact deadP hu | (refine spP hu ?_; clear hu; rintro rfl rfl) | (refine smP hu ?_; clear hu; rintro rfl) | cases hu
    exact val i v h M' _ _ (List.getElem?_eq_getElem hi) hr
  · rintro i h ⟨⟨o, ho, _⟩, _⟩ b hb
    rw [List.mem_singleton.mp hb]; exact ⟨o, ho⟩
  · intro b hb
    rw [List.mem_singleton.mp hb]; exact ⟨hn, _, Heap.get?_push_size _ rfl⟩
  · exact hvs.mono (enter_monoX S kp (fun b hb => by rw [List.mem_singleton.mp hb]; exact hn) hX)
  · intro b hb hw
    simp only [List.mem_cons, List.not_mem_nil, or_false] at hb hw
    rcases hb with rfl | rfl
    · exact absurd rfl hw
    · exact ⟨ha1, by simp [Nat.ne_of_lt hlt, ha2, not_X hX (kp _ _ g)], _, kp _ _ g⟩
theorem begin_bytes {target : Expr} {x : Str} {p : Pos} (ht : target = .Name x p) (hh : A.handled = none) {b : Array UInt8} {v : Value} (S : St c P M σ s.heap) (r : VR c M P s.heap (.bytes b) v) {Q : Value → Shared → Prop}
    (q : ∀ it s', Begun c A target false P M s (fun i _ ds => (b.toList.map fun x => [DV.int x.toNat])[i]? = some ds) (fun i _ => i = (b.toList.map fun x => [DV.int x.toNat]).length) it s' → Q it s') : wpAny c.M A (pyIter v) Q (fun _ _ => False) s := by
  subst ht
  refine exP1 r ?_; clear r; rintro t rfl
  refine KBw.pyIter_bytes (q _ _ ?_)
  have hn : s.heap.get? s.heap.objs.size = none := none_of_size
  have kp : Keep s.heap (s.heap.push { cls := .type "bytes_iterator", data := .fields #[.bytes b t, .int 0 0] }) := Keep.push _
  have W := KBw.walks (prog := c.prog) (w := c.w) hh s.heap.objs.size b t
  rw [show b.size = (b.toList.map fun x => [DV.int x.toNat]).length by simp] at W
  refine ⟨_, [s.heap.objs.size], _, rfl, fun X => Wk.ofWalks W (fun _ _ _ _ _ q => go_name q) (J := fun _ _ => True) (fun _ _ _ _ _ _ => trivial) ?_ in_wrX ?_, kp, rfl, rfl, ?_, fun X hX => ⟨⟨_, Heap.get?_push_size _ rfl, rfl, rfl⟩, trivial, ?_⟩⟩
  · intro i v h M' hi hv _
    refine exQ2 hv ?_; clear hv; rintro c' u h1 rfl
    exact ⟨[.int c'.toNat], by rw [List.getElem?_map, Array.getElem?_toList, h1]; rfl, _, rfl, u, rfl⟩
  · rintro i h ⟨o, ho, _⟩ b hb
    rw [List.mem_singleton.mp hb]; exact ⟨o, ho⟩
  · intro b hb
    rw [List.mem_singleton.mp hb]; exact ⟨hn, _, Heap.get?_push_size _ rfl⟩
  · intro b hb hw
    exact absurd hb hw
theorem begin_ba {target : Expr} {x : Str} {p : Pos} (ht : target = .Name x p) (hh : A.handled = none) {b : Array UInt8} {v : Value} (S : St c P M σ s.heap) (r : VR c M P s.heap (.ba b) v) {Q : Value → Shared → Prop}
    (q : ∀ it s', Begun c A target false P M s (fun i _ ds => (b.toList.map fun x => [DV.int x.toNat])[i]? = some ds) (fun i _ => i = (b.toList.map fun x => [DV.int x.toNat]).length) it s' → Q it s') : wpAny c.M A (pyIter v) Q (fun _ _ => False) s := by
  subst ht
  refine exP4 r ?_; clear r; rintro a rfl ha1 ha2 g
  refine ba_iter g (q _ _ ?_)
  have hlt := Heap.lt_size g
  have hn : s.heap.get? s.heap.objs.size = none := none_of_size
  have kp : Keep s.heap (s.heap.push { cls := .type "bytearray_iterator", data := .fields #[.ref a, .int 0 0] }) := Keep.push _
  have W := ba_walks (prog := c.prog) (w := c.w) hh s.heap.objs.size a (Nat.ne_of_lt hlt) b
  rw [show b.size = (b.toList.map fun x => [DV.int x.toNat]).length by simp] at W
  refine ⟨_, [s.heap.objs.size], _, rfl, fun X => Wk.ofWalks W (fun _ _ _ _ _ q => go_name q) (J := fun _ _ => True) (fun _ _ _ _ _ _ => trivial) ?_ in_wrX ?_, kp, rfl, rfl, ?_, fun X hX => ⟨⟨⟨_, Heap.get?_push_size _ rfl, rfl, rfl⟩, kp _ _ g⟩, trivial, ?_⟩⟩
  · intro i v h M' hi hv _
    refine exQ2 hv ?_; clear hv; rintro c' u h1 rfl
    exact ⟨[.int c'.toNat], by rw [List.getElem?_map, Array.getElem?_toList, h1]; rfl, _, rfl, u, rfl⟩
  · rintro i h ⟨⟨o, ho, _⟩, _⟩ b hb
    rw [List.mem_singleton.mp hb]; exact ⟨o, ho⟩
  · intro b hb
    rw [List.mem_singleton.mp hb]; exact ⟨hn, _, Heap.get?_push_size _ rfl⟩
  · intro b hb hw
    simp only [List.mem_cons, List.not_mem_nil, or_false] at hb hw
    rcases hb with rfl | rfl
    · exact absurd rfl hw
    · exact ⟨ha1, by simp [Nat.ne_of_lt hlt, ha2, not_X hX (kp _ _ g)], _, kp _ _ g⟩
theorem begin_range {target : Expr} {x : Str} {p : Pos} (ht : target = .Name x p) (hh : A.handled = none) {k : Int} {v : Value} (h0 : 0 ≤ k) (hk : k ≤ big) (S : St c P M σ s.heap) (r : VR c M P s.heap (.int k) v) {Q : Value → Shared → Prop}
    (q : ∀ xv s₁, Keep s.heap s₁.heap → s₁.gens = s.gens → s₁.os = s.os → (∀ (Q' : Value → Shared → Prop), (∀ it s', Begun c A target false P M s₁ (fun i _ ds => ((List.range k.toNat).map fun (k : Nat) => [DV.int (k : Int)])[i]? = some ds) (fun i _ => i = ((List.range k.toNat).map fun (k : Nat) => [DV.int (k : Int)]).length) it s' → Q' it s') →
      wpAny c.M A (pyIter xv) Q' (fun _ _ => False) s₁) → Q xv s₁) : wpAny c.M A (call (.type "range") [v]) Q (fun _ _ => False) s := by
  subst ht
  refine exP1 r ?_; clear r; rintro t rfl
  have hb : (big : Int) = 100000 := rfl
  refine call_range_1 (q _ _ (Keep.push _) rfl rfl fun Q' q' => ?_)
  have hsz : Builtin.Range.rangeSize 0 k 1 = k := by
    unfold Builtin.Range.rangeSize
    simp
    lia
  refine wpAny_pyIter_range (Heap.get?_push_size _ rfl) ?_ (q' _ _ ?_)
  · unfold Builtin.Range.small
    rw [hsz]
    simp [Builtin.Range.rangeFitsLong]; lia
  generalize s.heap.push { cls := .type "range", data := .fields #[.int 0 s.toks, .int k t, .int 1 (s.toks + 1)] } = h₁
  have hn : h₁.get? h₁.objs.size = none := none_of_size
  rw [hsz]
  have kp : Keep h₁ (h₁.push { cls := .type "range_iterator", data := .fields #[rawInt 0, rawInt k, rawInt 1] }) := Keep.push _
  have W := Walks.range (prog := c.prog) (w := c.w) hh h₁.objs.size 0 1 k.toNat
  rw [show k.toNat = ((List.range k.toNat).map fun (k : Nat) => [DV.int (k : Int)]).length by simp] at W
  refine ⟨_, [h₁.objs.size], _, rfl, fun X => Wk.ofWalks W (fun _ _ _ _ _ q => go_name q) (J := fun _ _ => True) (fun _ _ _ _ _ _ => trivial) ?_ in_wrX ?_, kp, rfl, rfl, ?_, fun X hX => ⟨?_, trivial, ?_⟩⟩
  · intro i v h M' hi hv _
    refine exP1 hv ?_; clear hv; rintro u rfl
    rw [List.length_map, List.length_range] at hi
    refine ⟨[.int (i : Int)], by rw [List.getElem?_map, List.getElem?_range hi]; rfl, _, rfl, u, ?_⟩
    congr 1; lia
  · rintro i h ho b hb
    rw [List.mem_singleton.mp hb]; exact ⟨_, ho⟩
  · intro b hb
    rw [List.mem_singleton.mp hb]; exact ⟨hn, _, Heap.get?_push_size _ rfl⟩
  · show IsRangeIter _ _ _ _ _
    have : ((((List.range k.toNat).map fun (k : Nat) => [DV.int (k : Int)]).length : Nat) : Int) - (0 : Nat) = k := by simp; lia
    rw [this]
    exact Heap.get?_push_size _ rfl
  · intro b hb hw
    exact absurd hb hw
theorem enumL_len : ∀ (l : List DV) (k : Nat), (enumL k l).length = l.length
  | [], _ => rfl
  | _ :: l, k => by simp [enumL, enumL_len l]
theorem enumL_get : ∀ {l : List DV} {k i : Nat} {d : DV}, l[i]? = some d → (enumL k l)[i]? = some [.int ((k + i : Nat) : Int), d]
  | [], _, _, _, e => by simp at e
  | x :: l, k, 0, d, e => by simp at e; subst e; simp [enumL]
  | x :: l, k, i + 1, d, e => by
    simp at e
    have := enumL_get (k := k + 1) e
    simp only [enumL, List.getElem?_cons_succ, this]
    congr 3
    lia
theorem begin_enum {elts : List Expr} {kk : Nat} {pos : Pos} (hh : A.handled = none) {l : List DV} {v : Value} (S : St c P M σ s.heap) (r : VR c M P s.heap (.lst l) v) {Q : Value → Shared → Prop}
    (q : ∀ xv s₁, Keep s.heap s₁.heap → s₁.gens = s.gens → s₁.os = s.os → (∀ (Q' : Value → Shared → Prop), (∀ it s', Begun c A (.Tuple elts kk pos) true P M s (fun i _ ds => (enumL 0 l)[i]? = some ds) (fun i _ => i = (enumL 0 l).length) it s' → Q' it s') →
      wpAny c.M A (pyIter xv) Q' (fun _ _ => False) s₁) → Q xv s₁) : wpAny c.M A (call (.type "enumerate") [v]) Q (fun _ _ => False) s := by
  obtain ⟨a, vs, k, rfl, ha1, ha2, g, hvs⟩ := r
  have hlt := Heap.lt_size g
  refine call_enumerate_list (isList g) fun h' hE hI hsz hk => q _ _ hk rfl rfl fun Q' q' => ?_
  refine wpAny_pyIter_enum hE (q' _ _ ?_)
  have hl := hvs.length
  simp only [Array.length_toList] at hl
  have hn : ∀ b ∈ [s.heap.objs.size + 1, s.heap.objs.size], s.heap.get? b = none := fun b hb => by
    simp only [List.mem_cons, List.not_mem_nil, or_false] at hb
    rcases hb with rfl | rfl
    · exact none_of_le (Nat.le_succ _)
    · exact none_of_size
  have W := WalksT.enumerate (prog := c.prog) (w := c.w) hh (s.heap.objs.size + 1) s.heap.objs.size a (Nat.succ_ne_self _) (Nat.ne_of_lt (Nat.lt_succ_of_lt hlt)) (Nat.ne_of_lt hlt) vs
  rw [show vs.size = (enumL 0 l).length by rw [enumL_len]; lia] at W
  refine ⟨_, [s.heap.objs.size + 1, s.heap.objs.size], _, rfl, fun X => Wk.ofWalksT W (J := fun M h => VRs c M (X ++ ([s.heap.objs.size + 1, s.heap.objs.size] ++ P)) h l vs.toList) (fun _ _ _ _ x mo => x.mono mo) ?_ in_wrX ?_, hk, rfl, rfl, ?_, fun X hX => ⟨⟨⟨.none, hE⟩, hI, isList (hk _ _ g)⟩, ?_, ?_⟩⟩
  · intro i vals h M' hi hv hJ
    rw [enumL_len] at hi
    refine exQ2 hv ?_; clear hv; rintro t x hx rfl
    refine exP2 (hJ.get (List.getElem?_eq_getElem hi)) ?_; rintro u hu hr
    rw [Array.getElem?_toList, hx] at hu
    first | exact deadP hu | (refine spP hu ?_; clear hu; rintro rfl rfl) | (refine smP hu ?_; clear hu; rintro rfl) | cases hu
    refine ⟨_, enumL_get (List.getElem?_eq_getElem hi), VRs.cons (d := .int _) ⟨t, ?_⟩ (VRs.cons hr VRs.nil)⟩
    congr 1; lia
  · rintro i h ⟨⟨old, he⟩, ⟨o, ho, _⟩, _⟩ b hb
    simp only [List.mem_cons, List.not_mem_nil, or_false] at hb
    rcases hb with rfl | rfl
    · exact ⟨_, he⟩
    · exact ⟨o, ho⟩
  · intro b hb
    refine ⟨hn b hb, ?_⟩
    simp only [List.mem_cons, List.not_mem_nil, or_false] at hb
    rcases hb with rfl | rfl
    · exact ⟨_, hE⟩
    · obtain ⟨o, ho, _⟩ := hI; exact ⟨o, ho⟩
  · exact hvs.mono (enter_monoX S hk hn hX)
  · intro b hb hw
    simp only [List.mem_cons, List.not_mem_nil, or_false, not_or] at hb hw
    rcases hb with rfl | rfl | rfl
    · exact absurd rfl hw.1
    · exact absurd rfl hw.2
    · exact ⟨ha1, by simp [hw.1, hw.2, ha2, not_X hX (hk _ _ g)], _, hk _ _ g⟩
end
end
section
noncomputable def FlR (c : Cx) (M P : List Addr) (h : Heap) : Fl → Flow → Prop
  | .next, .next => True
  | .cont, .cont => True
  | .ret d, .ret v => VR c M P h d v
  | _, _ => False
noncomputable def Sx (c : Cx) (O P M : List Addr) (s : Shared) (env : Env) (T : Tb) (r : Fl × Rho × Sg) (f : Flow) (s' : Shared) : Prop :=
  ∃ M', Go c O P M s M' r.2.2 s' ∧ Frm c env T P M' s'.heap r.2.1 ∧ FlR c M' P s'.heap r.1 f
noncomputable abbrev BS (c : Cx) (A : Around) (env : Env) (T : Tb) (O : List Addr) (body : List Stmt) (f : Rho → Sg → Out) : Prop :=
  ∀ (ρ : Rho) (σ : Sg) (r : Fl × Rho × Sg), f ρ σ = some r → ∀ (P M : List Addr) (s : Shared), EnvOk env T P → (∀ a ∈ O, a ∈ P) → St c P M σ s.heap → Frm c env T P M s.heap ρ → W c.M A (execs body env) (Sx c O P M s env T r) s
inductive Turns (vs : List Nat) (Now : Nat → Sg → List DV → Prop) (End : Nat → Sg → Prop) (f : Rho → Sg → Out) : Nat → Nat → Rho → Sg → (Fl × Rho × Sg) → Prop
  | done {k i ρ σ} (h : End i σ) : Turns vs Now End f k i ρ σ (.next, ρ, σ)
  | ret {k i ρ σ ds ρ' d ρ'' σ''} (h : Now i σ ds) (hs : setAll ρ vs ds = some ρ') (hf : f ρ' σ = some (.ret d, ρ'', σ'')) : Turns vs Now End f k i ρ σ (.ret d, ρ'', σ'')
  | step {k i ρ σ ds ρ' fl ρ'' σ'' r} (h : Now i σ ds) (hs : setAll ρ vs ds = some ρ') (hf : f ρ' σ = some (fl, ρ'', σ'')) (hfl : ∀ d, fl ≠ .ret d) (ht : Turns vs Now End f k (i + 1) ρ'' σ'' r) : Turns vs Now End f (k + 1) i ρ σ r
section
variable {c : Cx} {A : Around} {P P' M M₁ M₂ O wr fp : List Addr} {σ σ' σ₁ σ₂ : Sg} {h h' : Heap} {s s₁ s₂ : Shared} {env : Env} {T : Tb} {ρ ρ' : Rho} {d d₁ d₂ : DV} {H : Hd} {n m : Nat}
theorem turns_forL {vs : List Nat} {f : Rho → Sg → Out} {all : List (List DV)} : ∀ (its : List (List DV)) (i : Nat) (ρ : Rho) (σ : Sg) (r : Fl × Rho × Sg), all.drop i = its → i ≤ all.length → forL (fun x ρ' s => (setAll ρ' vs x).bind fun ρ'' => f ρ'' s) its ρ σ = some r →
    Turns vs (fun i _ ds => all[i]? = some ds) (fun i _ => i = all.length) f its.length i ρ σ r
  | [], i, ρ, σ, r, hd, hi, e => by
    first | exact deadP e | (refine spP e ?_; clear e; rintro rfl rfl) | (refine smP e ?_; clear e; rintro rfl) | cases e
    refine .done ?_
    have := List.drop_eq_nil_iff.mp hd
    lia
  | x :: its, i, ρ, σ, r, hd, hi, e => by
    have hlt : i < all.length := by
      rcases Nat.lt_or_ge i all.length with h | h
      · exact h
      · rw [List.drop_eq_nil_iff.mpr h] at hd; cases hd
    have hx : all[i]? = some x := by
      rw [← List.head?_drop, hd]; rfl
    have hd' : all.drop (i + 1) = its := by rw [← List.tail_drop, hd]; rfl
    refine bnd1 e ?_; clear e; rintro ⟨fl, ρ₁, σ₁⟩ e1 e2
    refine bnd1 e1 ?_; clear e1; rintro ρ₂ e3 e4
    cases fl with
    | ret d => cases e2; exact .ret hx e3 e4
    | next => exact .step hx e3 e4 (fun d z => by cases z) (turns_forL its (i + 1) _ _ _ hd' hlt e2)
    | cont => exact .step hx e3 e4 (fun d z => by cases z) (turns_forL its (i + 1) _ _ _ hd' hlt e2)
theorem for_loop {k : Nat} (R : Room A k) {target : Expr} {two : Bool} {vs : List Nat} (tg : TgOk T target two vs) {I : Addr} {Now : Nat → Sg → List DV → Prop} {End : Nat → Sg → Prop} {Pre : Nat → List Addr → Heap → Prop}
    (K : Wk c A target two I wr (wr ++ P) Now End Pre) {body : List Stmt} {f : Rho → Sg → Out} (B : BS c A env T O body f) (E : EnvOk env T P) (hO : ∀ a, Own env a → a ∈ O) (hP : ∀ a ∈ O, a ∈ P)
    {s₀ : Shared} {M₀ : List Addr} (hw0 : ∀ b ∈ wr, s₀.heap.get? b = none) (hwP : ∀ b ∈ P, b ∉ wr) {r : Fl × Rho × Sg} {cnt : Nat} (t : Turns vs Now End f cnt 0 ρ σ r)
    (g : Go c O (wr ++ P) M₀ s₀ M σ s) (F : Frm c env T (wr ++ P) M s.heap ρ) (pre : Pre 0 M s.heap) :
    CC c.M A (.forLoop target (.ref I) body [] env) (Sx c O P M₀ s₀ env T r) s := by
  have hsub : ∀ a ∈ P, a ∈ wr ++ P := fun a ha => List.mem_append_right _ ha
  have E' : EnvOk env T (wr ++ P) := E.more hsub
  have hP' : ∀ a ∈ O, a ∈ wr ++ P := fun a ha => hsub a (hP a ha)
  have hOw : ∀ b ∈ wr, b ∉ O := fun b hb z => hwP b (hP b z) hb
  have wfin : ∀ {M' : List Addr} {h h' : Heap}, (∀ b o, b ∉ wr → h.get? b = some o → h'.get? b = some o) → Mono M' M' (wr ++ P) P h h' := fun k =>
    ⟨List.prefix_refl _, fun a o h1 h2 e => ⟨k a o (fun z => h2 (in_wr a z)) e, h1, fun z => h2 (hsub a z)⟩⟩
  have hE : Around.under A (.forLoop target (.ref I) body [] env) = A := Around.under_of_weight rfl
  refine CC.loop rfl rfl (fun n s' => ∃ i M' ρ' σ', Turns vs Now End f n i ρ' σ' r ∧ Go c O (wr ++ P) M₀ s₀ M' σ' s' ∧ Frm c env T (wr ++ P) M' s'.heap ρ' ∧ Pre i M' s'.heap) ?_ cnt ⟨0, M, ρ, σ, t, g, F, pre⟩
  rintro n s' ⟨i, M', ρ', σ', t, g, F, pre⟩
  rw [hE]
  show W _ _ ((forTurn target (.ref I) body [] env).onRaise _) _ _
  refine .onRaise ?_
  unfold forTurn
  refine .bind (.standAt (.bind (.onRaise ?_)))
  have fin : ∀ {M'' : List Addr} {σ'' : Sg} {s'' : Shared} {h'' : Heap} {tk : Tok} {ρ'' : Rho} {fl : Fl} {fw : Flow}, Go c O (wr ++ P) M₀ s₀ M'' σ'' s'' → Frm c env T (wr ++ P) M'' s''.heap ρ'' → (∀ b o, b ∉ wr → s''.heap.get? b = some o → h''.get? b = some o) → FlR c M'' P h'' fl fw → Sx c O P M₀ s₀ env T (fl, ρ'', σ'') fw { s'' with heap := h'', toks := tk } := by
    intro M'' σ'' s'' h'' tk ρ'' fl fw g F k fr
    refine ⟨M'', ⟨g.st.drop k in_wr hsub hwP, ⟨g.ex.pre, g.ex.new, g.ex.off, fun b o h1 h2 e => k b o (fun z => by rw [hw0 b z] at e; cases e) (g.ex.keep b o h1 h2 e)⟩, g.gn, g.os⟩, ?_, fr⟩
    exact F.keep (wfin k) fun a ha o e => k a o (fun z => hOw a z (hO a ha)) e
  have item : ∀ {Post : Fin → Shared → Prop} {ds : List DV} {ρ₁ : Rho} {fl : Fl} {ρ₂ : Rho} {σ₂ : Sg}, Now i σ' ds → setAll ρ' vs ds = some ρ₁ → f ρ₁ σ' = some (fl, ρ₂, σ₂) →
      (∀ (v : Value) (M₂ : List Addr) (s₂ : Shared), Go c O (wr ++ P) M₀ s₀ M₂ σ₂ s₂ → Frm c env T (wr ++ P) M₂ s₂.heap ρ₂ → Pre (i + 1) M₂ s₂.heap → ∀ fw, FlR c M₂ (wr ++ P) s₂.heap fl fw → W c.M A (match fw with
        | .next | .cont => again (.forLoop target (.ref I) body [] env)
        | .brk => pure (.done .next)
        | .ret v => pure (.done (.ret v))) Post s₂) →
      W c.M A (pyNext (.ref I)) (fun a s' => W c.M A (match a with
        | none => again (.block [] env)
        | some v => letOwnedTupleGo target (.ref I) v >>= fun _ => assign target env v >>= fun _ => execs body env >>= fun __do_lift => match __do_lift with
          | .next | .cont => again (.forLoop target (.ref I) body [] env)
          | .brk => pure (.done .next)
          | .ret v => pure (.done (.ret v))) Post s') s' := by
    intro Post ds ρ₁ fl ρ₂ σ₂ hnow hset hf cont
    refine .of (wpAny_mono (K.turn i M' σ' ds s' (fun v s₂ => W c.M A (assign target env v >>= fun _ => execs body env >>= fun __do_lift => match __do_lift with
          | .next | .cont => again (.forLoop target (.ref I) body [] env)
          | .brk => pure (.done .next)
          | .ret v => pure (.done (.ret v))) Post s₂) hnow g.st pre fun v h₁ tk k1 k2 pre₁ tv => ?_) (fun a s₁ hx => ?_) fun _ _ x => x)
    · have S₁ := g.st.turned k1 in_wr k2
      have mo := off_mono (M := M') (P := wr ++ P) in_wr k1
      have F₁ : Frm c env T (wr ++ P) M' h₁ ρ' := F.keep mo fun a ha o e => k1 a o (fun z => hOw a z (hO a ha)) e
      have g₁ : Go c O (wr ++ P) M₀ s₀ M' σ' { s' with heap := h₁, toks := tk } := ⟨S₁, ⟨g.ex.pre, g.ex.new, g.ex.off, fun b o h1 h2 e => k1 b o (fun z => by rw [hw0 b z] at e; cases e) (g.ex.keep b o h1 h2 e)⟩, g.gn, g.os⟩
      refine .leaf (a_target R.hh tg E' S₁ F₁ (fun _ _ _ _ => .inr hO) hP' tv hset fun s₂ g₂ m₂ F₂ => ?_)
      refine .bind ((B ρ₁ σ' _ hf (wr ++ P) M' s₂ E' hP' g₂.st F₂).mono fun fw s₃ h₃ => ?_)
      refine exP3 h₃ ?_; clear h₃; rintro M₃ g₃ F₃ fr
      refine cont v M₃ s₃ ((g₁.trans g₂).trans g₃) F₃ ?_ fw fr
      have gg := g₂.trans g₃
      exact K.mono (i + 1) M' M₃ h₁ s₃.heap pre₁ (gg.ex.mono hP') fun b hb o e => gg.ex.keep b o (S₁.off b (in_wr b hb)).1 (hOw b hb) e
    · cases a with
      | none => exact hx.elim
      | some v => exact .leaf (wpAny_mono hx (fun _ _ q => q) fun _ _ x => x)
  cases t with
  | done he =>
    refine .of (K.done i M' σ' s' _ he g.st pre fun h'' tk k => ?_)
    refine .pure (.inr ⟨rfl, rfl, CC.block (.pure ?_)⟩)
    exact fin g F k trivial
  | ret hn hs hf =>
    refine item hn hs hf fun v M₂ s₂ g₂ F₂ p₂ fw fr => ?_
    cases fw with
    | ret v =>
      refine .pure ?_
      have r : VR c M₂ (wr ++ P) s₂.heap _ v := fr
      exact fin (tk := s₂.toks) g₂ F₂ (fun b o _ e => e) (r.mono (Mono.shrink hsub))
    | _ => exact fr.elim
  | step hn hs hf hfl ht =>
    refine item hn hs hf fun v M₂ s₂ g₂ F₂ p₂ fw fr => ?_
    rename_i k' ds₁ ρ₁ fl ρ₂ σ₂
    cases fl with
    | ret d => exact absurd rfl (hfl d)
    | next =>
      cases fw with
      | next => exact .pure (.inl ⟨rfl, k', Nat.lt_succ_self _, i + 1, M₂, _, _, ht, g₂, F₂, p₂⟩)
      | _ => exact fr.elim
    | cont =>
      cases fw with
      | cont => exact .pure (.inl ⟨rfl, k', Nat.lt_succ_self _, i + 1, M₂, _, _, ht, g₂, F₂, p₂⟩)
      | _ => exact fr.elim
end
end
section
section
variable {c : Cx} {A : Around} {P P' M M₁ M₂ O wr fp : List Addr} {σ σ' σ₁ σ₂ : Sg} {h h' : Heap} {s s₁ s₂ : Shared} {env : Env} {T : Tb} {ρ ρ' : Rho} {d d₁ d₂ : DV} {H : Hd} {n m : Nat}
theorem Sx.pre {r : Fl × Rho × Sg} {f : Flow} (g : Go c O P M s M₁ σ₁ s₁) (x : Sx c O P M₁ s₁ env T r f s₂) : Sx c O P M s env T r f s₂ := by
  refine exP3 x ?_; clear x; rintro M₂ g₂ F₂ fr
  exact ⟨M₂, g.trans g₂, F₂, fr⟩
noncomputable def Ready (c : Cx) (A : Around) (target : Expr) (two : Bool) (P M : List Addr) (s : Shared) (σ₁ : Sg) (Now : List Addr → Nat → Sg → List DV → Prop) (End : List Addr → Nat → Sg → Prop) (xv : Value) (s₁ : Shared) : Prop :=
  ∃ M₁ sb, Go c [] P M s M₁ σ₁ sb ∧ ∀ Q' : Value → Shared → Prop, (∀ it s', Begun c A target two P M₁ sb (Now M₁) (End M₁) it s' → Q' it s') → wpAny c.M A (pyIter xv) Q' (fun _ _ => False) s₁
noncomputable abbrev NowL (its : List (List DV)) : List Addr → Nat → Sg → List DV → Prop := fun _ i _ ds => its[i]? = some ds
noncomputable abbrev EndL (its : List (List DV)) : List Addr → Nat → Sg → Prop := fun _ i _ => i = its.length
theorem ev1 {a : Expr} {src : DV} (e : ev H n (tr m T a) ρ σ = some (src, σ₁)) : evL (fun e s => ev H n e ρ s) ([a].map (tr m T)) σ = some ([src], σ₁) := by
  show (ev H n (tr m T a) ρ σ).bind _ = _
  rw [e]; rfl
theorem items_range {src : DV} {its : List (List DV)} {X : Prop} (e : itemsOf .range src = some its) (k : ∀ j, src = .int j → 0 ≤ j → j ≤ big → its = (List.range j.toNat).map (fun (k : Nat) => [DV.int (k : Int)]) → X) : X :=
  bnd1 e fun j h1 e => ifP e fun h e => k j (intD_eq h1) h.1 h.2 (Option.some.inj e).symm
theorem s_src_seq {k : Nat} (ih : ES c A env T H n m) (R : Room A k) (E : EnvOk env T P) {iter : Expr} {x : Str} {p : Pos} {src : DV} {its : List (List DV)} (e1 : ev H n (tr m T iter) ρ σ = some (src, σ₁)) (e2 : itemsOf .seq src = some its) (S : St c P M σ s.heap) (F : Frm c env T P M s.heap ρ) :
    W c.M A (eval iter env) (Ready c A (.Name x p) false P M s σ₁ (NowL its) (EndL its)) s := by
  have hh := R.hh
  refine (ih iter ρ σ _ _ e1 P M s E S F).mono fun v s₁ h₁ => ?_
  obtain ⟨M₁, g₁, r₁⟩ := h₁.to
  clear h₁ e1
  refine ⟨M₁, s₁, g₁, fun Q' q' => ?_⟩
  refine elimO e2 (fun _ e2 => elimO e2 (fun _ e2 => elimO e2 (fun _ e2 => map1 e2 fun l h z => ?_) fun l h z => smP z fun z => ?_) fun l h z => smP z fun z => ?_) fun l h z => smP z fun z => ?_
  · subst z; cases baD_eq h; exact begin_ba rfl hh g₁.st r₁ q'
  · subst z; cases bytD_eq h; exact begin_bytes rfl hh g₁.st r₁ q'
  · subst z; cases tupD_eq h; exact begin_tup (two := false) (its := l.map ([·])) hh (by simp) g₁.st r₁ (fun i v h M P d e r => ⟨[d], single_its e, d, rfl, r⟩) q'
  · subst z; cases lstD_eq h; exact begin_list rfl hh g₁.st r₁ q'
theorem s_src_call (ih : ES c A env T H n m) (E : EnvOk env T P) (G : Gok c T.gl) {x : Str} {u : Value} {pf pc : Pos} {a : Expr} {Q : Value → Shared → Prop} (hd : x ≠ "__debug__") (hk : T.kind x = some .globalImplicit) (hg : T.gl x = some u) (e1 : ev H n (tr m T a) ρ σ = some (d, σ₁)) (S : St c P M σ s.heap) (F : Frm c env T P M s.heap ρ)
    (hu : ∀ a, u ≠ .ref a) (q : ∀ M₁ s₁ v, Go c [] P M s M₁ σ₁ s₁ → VR c M₁ P s₁.heap d v → W c.M A (call u [v]) Q s₁) :
    W c.M A (eval (.Call (.Name x pf) [a] [] pc) env) Q s := by
  show W _ _ (eval (.Name x pf) env >>= fun v => callWith pc v [] (backTo pc (starEach [a] env)) []) _ _
  refine .leaf (ld_glob E S G hd hk hg fun _ => ?_)
  have hpl := plain_args (env := env) (pos := pc) (ev1 e1)
  have sa := s_args (pos := pc) ih E [a] σ _ _ M s S F (ev1 e1)
  rw [hpl] at sa ⊢
  refine .callWith (sa.mono fun vs s₁ h₁ => ⟨keeper_plain hu, ?_⟩)
  obtain ⟨M₁, g₁, r₁⟩ := h₁
  obtain ⟨v, rfl, rv⟩ := VRs.one (s := s₁) r₁
  exact q M₁ s₁ v g₁ rv
theorem s_src_name {k : Nat} (ih : ES c A env T H n m) (R : Room A k) (E : EnvOk env T P) (G : Gok c T.gl) {iter : Expr} {x : Str} {p : Pos} {src : DV} {its : List (List DV)} (he : (srcOf T iter).1 ≠ .enum) (hp : (srcOf T iter).1 ≠ .pairs)
    (e1 : ev H n (tr m T (srcOf T iter).2) ρ σ = some (src, σ₁)) (e2 : itemsOf (srcOf T iter).1 src = some its) (S : St c P M σ s.heap) (F : Frm c env T P M s.heap ρ) :
    W c.M A (eval iter env) (Ready c A (.Name x p) false P M s σ₁ (NowL its) (EndL its)) s := by
  have hh := R.hh
  refine src_P (p := fun q => q.1 ≠ .enum ∧ ev H n (tr m T q.2) ρ σ = some (src, σ₁) ∧ itemsOf q.1 src = some its) ⟨he, e1, e2⟩ ?_ ?_ ?_ <;> clear he hp e1 e2
  · rintro ⟨_, e1, e2⟩
    exact s_src_seq ih R E e1 e2 S F
  · rintro a pf pc rfl hk hg ⟨_, e1, e2⟩
    refine items_range e2 ?_; clear e2; rintro k' rfl hb0 hb1 rfl
    refine s_src_call ih E G (by decide) hk hg e1 S F (fun _ => Value.noConfusion) fun M₁ s₁ v g₁ rv => ?_
    refine .of (begin_range (x := x) (p := p) rfl hh hb0 hb1 g₁.st rv fun xv s₂ kp hg2 ho2 q => ?_)
    have g₂ : Go c [] P M₁ s₁ M₁ σ₁ s₂ := ⟨g₁.st.keeps kp, Ext.of_keep kp, hg2, ho2⟩
    exact ⟨M₁, s₂, g₁.trans g₂, fun Q' q' => q Q' q'⟩
  · rintro _ _ _ _ _ _ ⟨h, _⟩
    exact absurd rfl h
theorem s_src_enum {k : Nat} (ih : ES c A env T H n m) (R : Room A k) (E : EnvOk env T P) (G : Gok c T.gl) {iter : Expr} {elts : List Expr} {kk : Nat} {pos : Pos} {src : DV} {its : List (List DV)} (he : (srcOf T iter).1 = .enum)
    (e1 : ev H n (tr m T (srcOf T iter).2) ρ σ = some (src, σ₁)) (e2 : itemsOf (srcOf T iter).1 src = some its) (S : St c P M σ s.heap) (F : Frm c env T P M s.heap ρ) :
    W c.M A (eval iter env) (Ready c A (.Tuple elts kk pos) true P M s σ₁ (NowL its) (EndL its)) s := by
  have hh := R.hh
  refine src_P (p := fun q => q.1 = .enum ∧ ev H n (tr m T q.2) ρ σ = some (src, σ₁) ∧ itemsOf q.1 src = some its) ⟨he, e1, e2⟩ ?_ ?_ ?_ <;> clear he e1 e2
  · rintro ⟨h, _⟩; exact nomatch h
  · rintro _ _ _ _ _ _ ⟨h, _⟩; exact nomatch h
  · rintro a pf pc rfl hk hg ⟨_, e1, e2⟩
    refine map1 e2 ?_; clear e2; rintro l h rfl
    cases lstD_eq h
    refine s_src_call ih E G (by decide) hk hg e1 S F (fun _ => Value.noConfusion) fun M₁ s₁ v g₁ rv => ?_
    refine .of (begin_enum (elts := elts) (kk := kk) (pos := pos) hh g₁.st rv fun xv s₂ kp hg2 ho2 q => ?_)
    exact ⟨M₁, s₁, g₁, fun Q' q' => q Q' q'⟩
theorem tupsL_get : ∀ {l : List DV} {its : List (List DV)}, tupsL l = some its → its.length = l.length ∧ ∀ (i : Nat) (d : DV), l[i]? = some d → ∃ ds, its[i]? = some ds ∧ d = .tup ds
  | [], _, e => smP e fun z => z ▸ ⟨rfl, fun i d h => nomatch h⟩
  | _ :: r, _, e => bnd1 e fun x h1 e => map1 e fun l e1 z => z ▸ ⟨congrArg (· + 1) (tupsL_get e1).1, fun i d h => match i, h with
    | 0, h => ⟨x, rfl, (Option.some.inj h).symm.trans (tupD_eq h1)⟩
    | i + 1, h => (tupsL_get e1).2 i d h⟩
theorem s_src_pairs {k : Nat} (ih : ES c A env T H n m) (R : Room A k) (E : EnvOk env T P) {iter : Expr} {target : Expr} {src : DV} {its : List (List DV)}
    (e1 : ev H n (tr m T iter) ρ σ = some (src, σ₁)) (e2 : itemsOf .pairs src = some its) (S : St c P M σ s.heap) (F : Frm c env T P M s.heap ρ) :
    W c.M A (eval iter env) (Ready c A target true P M s σ₁ (NowL its) (EndL its)) s := by
  have hh := R.hh
  refine (ih iter ρ σ _ _ e1 P M s E S F).mono fun v s₁ h₁ => ?_
  refine exP2 h₁.to ?_; rintro M₁ g₁ r₁
  refine ⟨M₁, s₁, g₁, fun Q' q' => ?_⟩
  refine bnd1 e2 ?_; clear e2; intro l h e2
  cases tupD_eq h
  refine andP2 (tupsL_get e2) ?_; rintro z1 z2
  refine begin_tup (two := true) (its := its) hh z1 g₁.st r₁ (fun i v h M P d e r => ?_) q'
  refine exP2 (z2 i d e) ?_; rintro ds y1 rfl
  obtain ⟨a, vs, k, rfl, _, _, g, hvs⟩ := r
  exact ⟨ds, y1, a, vs, rfl, isTuple g, hvs⟩
theorem folded_plain {iter : Expr} {env : Env} {v : Value} (h : ∀ l q p, iter ≠ .Set l q p) : foldedSetIterable iter env v = pure v := by
  cases iter <;> first | rfl | exact absurd rfl (h _ _ _)
theorem x_for {k : Nat} (R : Room A k) {target iter : Expr} {two : Bool} {vs : List Nat} (tg : TgOk T target two vs) {body : List Stmt} {pos : Pos} {f : Rho → Sg → Out} (B : BS c A env T O body f) (E : EnvOk env T P) (hO : ∀ a, Own env a → a ∈ O) (hP : ∀ a ∈ O, a ∈ P)
    (hset : ∀ l q p, iter ≠ .Set l q p) {Now : List Addr → Nat → Sg → List DV → Prop} {End : List Addr → Nat → Sg → Prop} {r : Fl × Rho × Sg} {cnt : Nat}
    (src : W c.M A (eval iter env) (fun xv s₁ => Ready c A target two P M s σ₁ Now End xv s₁ ∧ ∀ M₁ sb, Go c [] P M s M₁ σ₁ sb → Turns vs (Now M₁) (End M₁) f cnt 0 ρ σ₁ r) s) (S : St c P M σ s.heap) (F : Frm c env T P M s.heap ρ) :
    W c.M A (exec (.For target iter body [] pos) env) (Sx c O P M s env T r) s := by
  show W _ _ (standAt pos >>= fun _ => eval iter env >>= fun x => foldedSetIterable iter env x >>= fun x => standAt iter.pos >>= fun _ => holding [x] (pyIter x) >>= fun it => runOwn (.forLoop target it body [] env) env) _ _
  refine .bind (.standAt (.bind (src.mono fun xv s₁ h₁ => ?_)))
  refine andP2 h₁ ?_; clear h₁; rintro ⟨M₁, sb, g₁, go⟩ turns
  have hf : foldedSetIterable iter env xv = pure xv := folded_plain hset
  rw [hf]
  refine .bind (.pure (.bind (.standAt (.bind (.holding (.of (go _ fun it s' hb => ?_)))))))
  obtain ⟨I, wr, Pre, rfl, K, kp, hg, ho, hwr, pre⟩ := hb
  have hn : ∀ b ∈ wr, sb.heap.get? b = none := fun b hb => (hwr b hb).1
  have hPw : ∀ b ∈ P, b ∉ wr := fun b hb z => by
    refine exP1 (g₁.st.live b hb) ?_; rintro o ho
    rw [hn b z] at ho; cases ho
  have S' : St c (wr ++ P) M₁ σ₁ s'.heap := g₁.st.enter kp (fun b hb => by
      rcases List.mem_append.mp hb with hb | hb
      · exact .inr (hn b hb)
      · exact .inl hb) fun b hb => by
      rcases List.mem_append.mp hb with hb | hb
      · exact (hwr b hb).2
      · obtain ⟨o, ho⟩ := g₁.st.live b hb; exact ⟨o, kp _ _ ho⟩
  have F₁ := F.ext E S g₁.ex
  have F' : Frm c env T (wr ++ P) M₁ s'.heap ρ := F₁.keep (enter_mono g₁.st kp hn) fun b _ o e => kp _ _ e
  have L := for_loop R tg (K []) B E hO hP hn hPw (turns M₁ sb g₁) ⟨S', Ext.of_keep kp, hg, ho⟩ F' (pre [] fun b hb => nomatch hb)
  unfold runOwn
  refine .onRaise (.run ((show CC c.M (A.mark none) _ _ _ from L).mono fun f s'' hx => ?_) rfl nofun)
  exact hx.pre (g₁.own hP)
theorem x_while {k : Nat} (R : Room A k) (it : TS c A env T H n m) {test : Expr} {body : List Stmt} {pos : Pos} {f : Rho → Sg → Out} (B : BS c A env T O body f) (E : EnvOk env T P) (hO : ∀ a, Own env a → a ∈ O) (hP : ∀ a ∈ O, a ∈ P)
    {r : Fl × Rho × Sg} {cnt : Nat} (e : whL (fun ρ σ => ev H n (tr m T test) ρ σ) f cnt ρ σ = some r) (S : St c P M σ s.heap) (F : Frm c env T P M s.heap ρ) :
    W c.M A (exec (.While test body [] pos) env) (Sx c O P M s env T r) s := by
  show W _ _ (standAt pos >>= fun _ => runOwn (.whileLoop test body [] env) env) _ _
  refine .bind (.standAt ?_)
  unfold runOwn
  have hE : Around.under A (.whileLoop test body [] env) = A := Around.under_of_weight rfl
  refine .onRaise (.run (show CC c.M A _ _ _ from ?_) rfl nofun)
  refine CC.loop rfl rfl (fun n' s' => ∃ M' ρ' σ', whL (fun ρ σ => ev H n (tr m T test) ρ σ) f n' ρ' σ' = some r ∧ Go c O P M s M' σ' s' ∧ Frm c env T P M' s'.heap ρ') ?_ cnt ⟨M, ρ, σ, e, Go.self S, F⟩
  rintro n' s' ⟨M', ρ', σ', e, g, F'⟩
  rw [hE]
  show W _ _ ((whileTurn test body [] env).onRaise _) _ _
  refine .onRaise ?_
  unfold whileTurn
  cases n' with
  | zero => cases e
  | succ n' =>
    refine bndP e ?_; clear e; rintro d₁ σ₁ e1 e
    refine bnd1 e ?_; clear e; rintro t e2 e
    cases asB_eq e2
    refine .bind ((it test ρ' σ' _ _ e1 P M' s' E g.st F').mono fun u s₁ h₁ => ?_)
    obtain ⟨rfl, M₁, g₁⟩ := h₁
    have F₁ := F'.ext E g.st g₁.ex
    have gg := g.trans (g₁.own hP)
    refine .ite ?_
    cases u with
    | false =>
      first | exact deadP e | (refine spP e ?_; clear e; rintro rfl rfl) | (refine smP e ?_; clear e; rintro rfl) | cases e
      exact .bind (.pure (.pure ⟨M₁, gg, F₁, trivial⟩))
    | true =>
      refine bnd1 e ?_; clear e; rintro ⟨fl, ρ₂, σ₂⟩ e3 e4
      refine .bind ((B ρ' σ₁ _ e3 P M₁ s₁ E hP g₁.st F₁).mono fun fw s₂ h₂ => ?_)
      refine exP3 h₂ ?_; clear h₂; rintro M₂ g₂ F₂ fr
      have g3 := gg.trans g₂
      cases fl with
      | ret d =>
        first | exact deadP e4 | (refine spP e4 ?_; clear e4; rintro rfl rfl) | (refine smP e4 ?_; clear e4; rintro rfl) | cases e4
        cases fw with
        | ret v => exact .pure ⟨M₂, g3, F₂, fr⟩
        | _ => exact fr.elim
      | next =>
        cases fw with
        | next => exact .pure (.inl ⟨rfl, n', Nat.lt_succ_self _, M₂, _, _, e4, g3, F₂⟩)
        | _ => exact fr.elim
      | cont =>
        cases fw with
        | cont => exact .pure (.inl ⟨rfl, n', Nat.lt_succ_self _, M₂, _, _, e4, g3, F₂⟩)
        | _ => exact fr.elim
end
end
section
noncomputable def forget (ρ : Rho) (vs : List Nat) : Rho := vs.foldl (fun r i => r.set i none) ρ
inductive CTurns (vs : List Nat) (Now : Nat → Sg → List DV → Prop) (End : Nat → Sg → Prop) (f : Rho → Sg → Option (DV × Sg)) (ρ : Rho) : Nat → Nat → Sg → List DV → Sg → Prop
  | done {k i σ} (h : End i σ) : CTurns vs Now End f ρ k i σ [] σ
  | step {k i σ ds ρ' d σ' rest σ''} (h : Now i σ ds) (hs : setAll ρ vs ds = some ρ') (hf : f ρ' σ = some (d, σ')) (ht : CTurns vs Now End f ρ k (i + 1) σ' rest σ'') : CTurns vs Now End f ρ (k + 1) i σ (d :: rest) σ''
section
variable {c : Cx} {A : Around} {P P' M M₁ M₂ O wr fp : List Addr} {σ σ' σ₁ σ₂ : Sg} {h h' : Heap} {s s₁ s₂ : Shared} {env cenv : Env} {T : Tb} {ρ ρ' : Rho} {d d₁ d₂ : DV} {H : Hd} {n m : Nat}
theorem turns_compL {vs : List Nat} {f : Rho → Sg → Option (DV × Sg)} {all : List (List DV)} : ∀ (its : List (List DV)) (i : Nat) (σ : Sg) (q : List DV × Sg), all.drop i = its → i ≤ all.length → compL (fun x s => (setAll ρ vs x).bind fun ρ' => f ρ' s) its σ = some q →
    CTurns vs (fun i _ ds => all[i]? = some ds) (fun i _ => i = all.length) f ρ its.length i σ q.1 q.2
  | [], i, σ, q, hd, hi, e => by
    first | exact deadP e | (refine spP e ?_; clear e; rintro rfl rfl) | (refine smP e ?_; clear e; rintro rfl) | cases e
    refine .done ?_
    have := List.drop_eq_nil_iff.mp hd
    lia
  | x :: its, i, σ, q, hd, hi, e => by
    have hlt : i < all.length := by
      rcases Nat.lt_or_ge i all.length with h | h
      · exact h
      · rw [List.drop_eq_nil_iff.mpr h] at hd; cases hd
    have hx : all[i]? = some x := by
      rw [← List.head?_drop, hd]; rfl
    have hd' : all.drop (i + 1) = its := by rw [← List.tail_drop, hd]; rfl
    refine bndP e ?_; clear e; rintro d σ₁ e1 e2
    refine bndP e2 ?_; clear e2; rintro ds σ₂ e3 e4
    refine bnd1 e1 ?_; clear e1; rintro ρ' e5 e6
    first | exact deadP e4 | (refine spP e4 ?_; clear e4; rintro rfl rfl) | (refine smP e4 ?_; clear e4; rintro rfl) | cases e4
    exact .step hx e5 e6 (turns_compL its (i + 1) _ _ hd' hlt e3)
theorem tg_ne {target : Expr} {vs : List Nat} {two : Bool} (tg : TgOk T target two vs) : vs.Nodup := by
  cases tg with
  | one => simp
  | two x y p q pos k i j h1 h2 h3 =>
    have : i ≠ j := fun e => by
      subst e
      have a := (Tb.var_get h1).1
      have b := (Tb.var_get h2).1
      rw [a] at b; cases b; exact h3 rfl
    simp [this]
theorem set_forget {target : Expr} {vs : List Nat} {two : Bool} (tg : TgOk T target two vs) {ds : List DV} (e : setAll ρ vs ds = some ρ') : setAll (forget ρ vs) vs ds = some ρ' ∧ ∀ (k : Nat) (d : DV), (forget ρ vs)[k]? = some (some d) → ρ'[k]? = some (some d) := by
  have nd := tg_ne tg
  cases tg with
  | one x p i h =>
    match ds, e with
    | [], e => cases e
    | a :: r, e =>
      unfold setAll at e
      split at e
      · rename_i hl
        cases r with
        | cons _ _ => cases e
        | nil =>
          first | exact deadP e | (refine spP e ?_; clear e; rintro rfl rfl) | (refine smP e ?_; clear e; rintro rfl) | cases e
          refine ⟨?_, fun k d hk => ?_⟩
          · show setAll (ρ.set i none) [i] [a] = _
            unfold setAll
            rw [if_pos (by simpa using hl)]
            show some _ = _
            rw [List.set_set]
          · have hk : (ρ.set i none)[k]? = some (some d) := hk
            rw [List.getElem?_set] at hk ⊢
            split at hk
            · simp at hk
            · rename_i h; rw [if_neg h]; exact hk
      · exact deadP e
  | two x y p q pos kk i j h1 h2 h3 =>
    have hij : i ≠ j := by simpa using nd
    match ds, e with
    | [], e => cases e
    | [a], e => unfold setAll at e; split at e <;> cases e
    | a :: b :: r, e =>
      unfold setAll at e
      split at e
      · rename_i hl
        unfold setAll at e
        split at e
        · rename_i hl2
          cases r with
          | cons _ _ => cases e
          | nil =>
            first | exact deadP e | (refine spP e ?_; clear e; rintro rfl rfl) | (refine smP e ?_; clear e; rintro rfl) | cases e
            rw [List.length_set] at hl2
            refine ⟨?_, fun k d hk => ?_⟩
            · show setAll ((ρ.set i none).set j none) [i, j] [a, b] = _
              unfold setAll
              rw [if_pos (by simpa using hl)]
              unfold setAll
              rw [if_pos (by simpa using hl2)]
              show some _ = _
              rw [List.set_comm (l := ρ.set i none) none (some a) hij.symm, List.set_set, List.set_set]
            · have hk : ((ρ.set i none).set j none)[k]? = some (some d) := hk
              rw [List.getElem?_set] at hk ⊢
              split at hk
              · simp [hl2] at hk
              · rename_i h
                rw [if_neg h]
                rw [List.getElem?_set] at hk ⊢
                split at hk
                · simp at hk
                · rename_i h'; rw [if_neg h']; exact hk
        · exact deadP e
      · exact deadP e
theorem Frm.sub (F : Frm c env T P M h ρ) (hs : ∀ (k : Nat) (d : DV), ρ'[k]? = some (some d) → ρ[k]? = some (some d)) : Frm c env T P M h ρ' := by
  obtain ⟨⟨m, h1, h2⟩, h3⟩ := F
  refine ⟨⟨m, h1, fun i x d a b e => h2 i x d a b (hs i d e)⟩, fun x a e => ?_⟩
  refine exP2 (h3 x a e) ?_; rintro u p q
  exact ⟨u, p, fun i d a b e => q i d a b (hs i d e)⟩
noncomputable def CEnd (c : Cx) (O P M : List Addr) (s : Shared) (L D : Addr) (ds : List DV) (σ' : Sg) (s' : Shared) : Prop :=
  ∃ M', Go c O P M s M' σ' s' ∧ (∃ vs k, s'.heap.get? D = some (lstO vs k) ∧ VRs c M' P s'.heap ds vs.toList) ∧ ∃ m, s'.heap.Ns L m
theorem Go.wide {O' : List Addr} (x : Go c O P M s M₁ σ₁ s₁) (hs : ∀ a ∈ O, a ∈ O') (hP : ∀ a ∈ O', a ∈ P) : Go c O' P M s M₁ σ₁ s₁ :=
  ⟨x.st, ⟨x.ex.pre, x.ex.new, fun a h1 h2 => absurd h1 (x.st.off a (hP a h2)).1, fun b o h1 h2 e => x.ex.keep b o h1 (fun z => h2 (hs b z)) e⟩, x.gn, x.os⟩
theorem comp_loop {k : Nat} (R : Room A k) {T' : Tb} {target iter elt : Expr} {two : Bool} {vs : List Nat} (tg : TgOk T' target two vs) (hloc : ∀ x i, T'.var x = some i → i ∈ vs → T'.kind x = some .local)
    {I D : Addr} {Now : Nat → Sg → List DV → Prop} {End : Nat → Sg → Prop} {Pre : Nat → List Addr → Heap → Prop} {scope : Scope} {pos : Pos}
    {Pb : List Addr} (hPw : ∀ b ∈ wr, b ∈ P) (hPb : ∀ b ∈ Pb, b ∈ P) (hPd : ∀ b ∈ Pb, b ∉ wr)
    (K : Wk c A target two I wr P Now End Pre) (ihc : ES c A cenv T' H n m) (E : EnvOk cenv T' P) (hown : ∀ a, Own cenv a → a ∉ wr ∧ a ≠ D)
    {s₀ : Shared} {M₀ : List Addr} (hw0 : ∀ b ∈ wr, s₀.heap.get? b = none) (hO : O = [D, cenv.locals]) (hOP : ∀ a ∈ O, a ∈ Pb) {ds : List DV} {cnt : Nat} (hlen : ds.length ≤ big) (t : CTurns vs Now End (fun ρ σ => ev H n (tr m T' elt) ρ σ) ρ cnt 0 σ ds σ')
    (g : Go c O P M₀ s₀ M σ s) (F : Frm c cenv T' P M s.heap (forget ρ vs)) (pre : Pre 0 M s.heap) (acc : ∃ k, s.heap.get? D = some (lstO #[] k)) :
    CC c.M A (.compLoop (.ListComp elt [⟨target, iter, [], 0⟩] scope pos) 0 (.ref I) (.ref D) cenv) (fun f s' => CEnd c O Pb M₀ s₀ cenv.locals D ds σ' s') s := by
  have hb' : big ≤ 16777216 - 1 := by decide
  have hE : Around.under A (.compLoop (.ListComp elt [⟨target, iter, [], 0⟩] scope pos) 0 (.ref I) (.ref D) cenv) = A := Around.under_of_weight rfl
  have hDO : D ∈ O := by rw [hO]; simp
  have hLO : cenv.locals ∈ O := by rw [hO]; simp
  have hDb := hOP D hDO
  have hDP := hPb D hDb
  have hDw := hPd D hDb
  have hOP' : ∀ a ∈ O, a ∈ P := fun a ha => hPb a (hOP a ha)
  have hOw : ∀ b ∈ wr, b ∉ O := fun b hb z => hPd b (hOP b z) hb
  have hLP : ∀ a ∈ [cenv.locals], a ∈ P := fun a ha => by rw [List.mem_singleton.mp ha]; exact E.loc
  refine exP1 acc ?_; clear acc; rintro k0 acc
  refine CC.loop rfl rfl (fun n' s' => ∃ i M' σi dn rest, dn ++ rest = ds ∧ CTurns vs Now End (fun ρ σ => ev H n (tr m T' elt) ρ σ) ρ n' i σi rest σ' ∧ Go c O P M₀ s₀ M' σi s' ∧ Frm c cenv T' P M' s'.heap (forget ρ vs) ∧ Pre i M' s'.heap ∧
    ∃ us k, s'.heap.get? D = some (lstO us k) ∧ VRs c M' P s'.heap dn us.toList) ?_ cnt ⟨0, M, σ, [], ds, rfl, t, g, F, pre, #[], k0, acc, VRs.nil⟩
  rintro n' s' ⟨i, M', σi, dn, rest, hds, t, g, F, pre, us, k, hacc, hus⟩
  rw [hE]
  show W _ _ ((compTurn (.ListComp elt [⟨target, iter, [], 0⟩] scope pos) 0 (.ref I) (.ref D) cenv).onRaise _) _ _
  refine .onRaise ?_
  rw [compTurn_list1]
  refine .bind (.standAt (.bind ?_))
  cases t with
  | done he =>
    refine .of (K.done i M' _ s' _ he g.st pre fun h'' tk k1 => ?_)
    refine .pure ?_
    have mo : Mono M' M' P Pb s'.heap h'' := ⟨List.prefix_refl _, fun a o h1 h2 e => ⟨k1 a o (fun z => h2 (hPw a z)) e, h1, fun z => h2 (hPb a z)⟩⟩
    rw [List.append_nil] at hds
    subst hds
    refine ⟨M', ⟨g.st.drop k1 hPw hPb hPd, ⟨g.ex.pre, g.ex.new, g.ex.off, fun b o h1 h2 e => k1 b o (fun z => by rw [hw0 b z] at e; cases e) (g.ex.keep b o h1 h2 e)⟩, g.gn, g.os⟩, ⟨us, k, k1 D _ hDw hacc, hus.mono mo⟩, ?_⟩
    refine exP2 F.ns ?_; rintro m' hm _
    exact ⟨m', hm.at' fun o e => k1 _ o (hown _ (.inl rfl)).1 e⟩
  | step hnow hset hf ht =>
    rename_i k' dx ρ₁ d σ₂ rest
    refine .of (wpAny_mono (K.turn i M' σi dx s' (fun v s₂ => W c.M A (assign target cenv v >>= fun _ => (eval elt cenv >>= fun x => call (.builtin "list.append") [.ref D, x] >>= fun _ => pure ()) >>= fun _ => again (.compLoop (.ListComp elt [⟨target, iter, [], 0⟩] scope pos) 0 (.ref I) (.ref D) cenv))
      (fun fin s' => match fin with
        | .done f => CEnd c O Pb M₀ s₀ cenv.locals D ds σ' s'
        | .again c' => (c' = .compLoop (.ListComp elt [⟨target, iter, [], 0⟩] scope pos) 0 (.ref I) (.ref D) cenv ∧ ∃ m_1, m_1 < k' + 1 ∧ ∃ i M' σi dn rest, dn ++ rest = ds ∧ CTurns vs Now End (fun ρ σ => ev H n (tr m T' elt) ρ σ) ρ m_1 i σi rest σ' ∧ Go c O P M₀ s₀ M' σi s' ∧ Frm c cenv T' P M' s'.heap (forget ρ vs) ∧ Pre i M' s'.heap ∧
            ∃ us k, s'.heap.get? D = some (lstO us k) ∧ VRs c M' P s'.heap dn us.toList) ∨ (c'.quiet = true ∧ cleanC c' = true ∧ CC c.M A c' (fun f s' => CEnd c O Pb M₀ s₀ cenv.locals D ds σ' s') s')) s₂) hnow g.st pre fun v h₁ tk k1 k2 pre₁ tv => ?_) (fun a s₁ hx => ?_) fun _ _ x => x)
    · have S₁ := g.st.turned k1 hPw k2
      have mo := off_mono (M := M') (P := P) hPw k1
      have F₁ : Frm c cenv T' P M' h₁ (forget ρ vs) := F.keep mo fun a ha o e => k1 a o (hown a ha).1 e
      have g₁ : Go c O P M₀ s₀ M' σi { s' with heap := h₁, toks := tk } := ⟨S₁, ⟨g.ex.pre, g.ex.new, g.ex.off, fun b o h1 h2 e => k1 b o (fun z => by rw [hw0 b z] at e; cases e) (g.ex.keep b o h1 h2 e)⟩, g.gn, g.os⟩
      refine andP2 (set_forget tg hset) ?_; rintro sf1 sf2
      refine .leaf (a_target (O := [cenv.locals]) R.hh tg E S₁ F₁ (fun x i hx hi => .inl ⟨hloc x i hx hi, by simp⟩) hLP tv sf1 fun s₂ g₂ m₂ F₂ => ?_)
      refine .bind (.bind ((ihc elt ρ₁ σi d σ₂ hf P M' s₂ E g₂.st F₂).mono fun v₃ s₃ h₃ => ?_))
      refine exP2 h₃.to ?_; rintro M₃ g₃ r₃
      have F₃ := F₂.ext E g₂.st g₃.ex
      have gg : Go c O P M₀ s₀ M₃ σ₂ s₃ := (g₁.trans (g₂.wide (fun a ha => by rw [List.mem_singleton.mp ha]; exact hLO) hOP')).trans (g₃.own hOP')
      have hDM := (g.st.off D hDP).1
      have hDM2 := (g₂.st.off D hDP).1
      have hDL : D ∉ [cenv.locals] := fun z => (hown _ (.inl rfl)).2 (List.mem_singleton.mp z).symm
      have hacc₁ := k1 D _ hDw hacc
      have hacc₂ := g₂.ex.keep D _ hDM hDL hacc₁
      have hacc₃ := g₃.ex.keep D _ hDM2 (fun z => nomatch z) hacc₂
      have hus₃ := ((hus.mono mo).mono m₂).mono g₃.ex.mono0
      have hl3 := hus₃.length
      simp only [Array.length_toList] at hl3
      have hl4 : dn.length + (rest.length + 1) = ds.length := by rw [← hds]; simp
      refine .leaf (m := call (.builtin "list.append") [.ref D, v₃]) (wpAny_call_entry slot_list_append (T := "list") ⟨_, hacc₃, rfl⟩ entry_list_append ?_ (args_list_append _ _))
      show wpAny _ _ (updateSeq D (·.push v₃) >>= fun _ => ret .none) _ _ s₃
      have fin : ∃ k', (s₃.heap.update D (Obj.mapSeq (·.push v₃))).get? D = some (lstO (us.push v₃) k') := ⟨_, Heap.get?_update_self _ hacc₃ rfl⟩
      refine wpAny_bind (wpAny_updateSeq hacc₃ rfl (wpAny_pure ⟨.none, rfl, ?_⟩) (by rw [sizeLine_eq]; lia) (by rw [Array.size_push, sizeLine_eq]; lia))
      refine exP1 fin ?_; clear fin; rintro k4 hacc₄
      generalize hh4 : s₃.heap.update D (Obj.mapSeq (·.push v₃)) = h₄ at hacc₄
      have k5 : ∀ b o, b ∉ [D] → s₃.heap.get? b = some o → h₄.get? b = some o := fun b o hb e => by
        rw [← hh4]; exact (Heap.get?_update_other _ _ (fun z => hb (by simp [z]))).trans e
      have hD1 : ∀ b ∈ [D], b ∈ P := fun b hb => by rw [List.mem_singleton.mp hb]; exact hDP
      have mo5 := off_mono (M := M₃) (P := P) hD1 k5
      have S₄ := gg.st.turned k5 hD1 fun b hb => by rw [List.mem_singleton.mp hb]; exact ⟨_, hacc₄⟩
      refine .pure (.pure (.inl ⟨rfl, k', Nat.lt_succ_self _, i + 1, M₃, σ₂, dn ++ [d], rest, by rw [← hds]; simp, ht, ⟨S₄, ⟨gg.ex.pre, gg.ex.new, gg.ex.off, fun b o h1 h2 e => k5 b o (fun z => h2 (by rw [List.mem_singleton.mp z]; exact hDO)) (gg.ex.keep b o h1 h2 e)⟩, gg.gn, gg.os⟩, ?_, ?_, us.push v₃, k4, hacc₄, ?_⟩))
      · exact (F₃.keep mo5 fun a ha o e => k5 a o (fun z => (hown a ha).2 (List.mem_singleton.mp z)) e).sub sf2
      · refine K.mono (i + 1) M' M₃ h₁ h₄ pre₁ ⟨g₃.ex.pre, fun a o h1 h2 e => ?_⟩ fun b hb o e => ?_
        · have q2 := m₂.pure a o h1 h2 e
          have q3 := g₃.ex.mono0.pure a o q2.2.1 q2.2.2 q2.1
          exact mo5.pure a o q3.2.1 q3.2.2 q3.1
        · have hbM := (S₁.off b (hPw b hb)).1
          have hbL : b ∉ [cenv.locals] := fun z => (hown _ (.inl rfl)).1 (by rw [← List.mem_singleton.mp z]; exact hb)
          have e2 := g₂.ex.keep b o hbM hbL e
          have e3 := g₃.ex.keep b o hbM (fun z => nomatch z) e2
          exact k5 b o (fun z => hDw (by rw [← List.mem_singleton.mp z]; exact hb)) e3
      · rw [Array.toList_push]
        exact (hus₃.mono mo5).append (VRs.cons (r₃.mono mo5) VRs.nil)
    · cases a with
      | none => exact hx.elim
      | some v => exact .leaf (wpAny_mono hx (fun _ _ q => q) fun _ _ x => x)
end
end
section
section
variable {c : Cx} {A : Around} {P P' M M₁ M₂ O wr fp : List Addr} {σ σ' σ₁ σ₂ : Sg} {h h' : Heap} {s s₁ s₂ : Shared} {env cenv : Env} {T : Tb} {ρ ρ' : Rho} {d d₁ d₂ : DV} {H : Hd} {n m : Nat}
noncomputable def closL (env : Env) : List (Str × NameKind) → List (Str × Addr) → List (Str × Addr)
  | [], cs => cs
  | (x, k) :: r, cs => if k == .free then (match env.cells.lookup x with | some a => closL env r ((x, a) :: cs) | none => closL env r cs) else closL env r cs
theorem forIn_clos (env : Env) : ∀ (names : List (Str × NameKind)) (cs : List (Str × Addr)), (∀ x, (x, NameKind.free) ∈ names → (env.cells.lookup x).isSome = true) →
    (forIn names cs fun (x : Str × NameKind) (cs : List (Str × Addr)) => (do
      if x.2 == .free then do
        let a ← cellOf env x.1
        pure (ForInStep.yield ((x.1, a) :: cs))
      else pure (ForInStep.yield cs) : Sem (ForInStep (List (Str × Addr))))) = pure (closL env names cs)
  | [], cs, _ => by rw [List.forIn_nil]; rfl
  | (x, k) :: r, cs, hf => by
    have hr : ∀ y, (y, NameKind.free) ∈ r → (env.cells.lookup y).isSome = true := fun y hy => hf y (List.mem_cons_of_mem _ hy)
    rw [List.forIn_cons]
    unfold closL
    by_cases hk : k = .free
    · subst hk
      refine exP1 (Option.isSome_iff_exists.mp (hf x List.mem_cons_self)) ?_; rintro a ha
      simp only [beq_self_eq_true, if_true, cellOf, ha, pure_bind]
      exact forIn_clos env r _ hr
    · have hb : (k == NameKind.free) = false := by simpa using hk
      simp only [hb, Bool.false_eq_true, if_false, pure_bind]
      exact forIn_clos env r cs hr
theorem clos_eq {scope : Scope} (hf : ∀ x, (x, NameKind.free) ∈ scope.names → (env.cells.lookup x).isSome = true) : closureFor scope env = pure (closL env scope.names []) := by
  unfold closureFor
  have := forIn_clos env scope.names [] hf
  simp only [bind_pure] at this ⊢
  exact this
theorem closL_look (env : Env) : ∀ (names : List (Str × NameKind)) (cs : List (Str × Addr)) (x : Str) (a : Addr), (∀ y b, cs.lookup y = some b → env.cells.lookup y = some b) → (closL env names cs).lookup x = some a → env.cells.lookup x = some a
  | [], cs, x, a, hc, e => hc x a e
  | (y, k) :: r, cs, x, a, hc, e => by
    unfold closL at e
    split at e
    · split at e
      · rename_i b hb
        refine closL_look env r _ x a (fun z b' hz => ?_) e
        rw [List.lookup_cons] at hz
        split at hz
        · rename_i hq; cases hz; rw [beq_iff_eq.mp hq]; exact hb
        · exact hc z b' hz
      · exact closL_look env r cs x a hc e
    · exact closL_look env r cs x a hc e
theorem closL_has (env : Env) : ∀ (names : List (Str × NameKind)) (cs : List (Str × Addr)) (x : Str), (cs.lookup x).isSome = true ∨ ((x, NameKind.free) ∈ names ∧ (env.cells.lookup x).isSome = true) → ((closL env names cs).lookup x).isSome = true
  | [], cs, x, h => by
    rcases h with h | ⟨h, _⟩
    · exact h
    · first | exact deadP h | (refine spP h ?_; clear h; rintro rfl rfl) | (refine smP h ?_; clear h; rintro rfl) | cases h
  | (y, k) :: r, cs, x, h => by
    unfold closL
    split
    · rename_i hk
      split
      · rename_i b hb
        refine closL_has env r _ x ?_
        rcases h with h | ⟨h, h2⟩
        · refine .inl ?_
          rw [List.lookup_cons]
          split
          · rfl
          · exact h
        · rcases List.mem_cons.mp h with h | h
          · first | exact deadP h | (refine spP h ?_; clear h; rintro rfl rfl) | (refine smP h ?_; clear h; rintro rfl) | cases h
            refine .inl ?_
            rw [List.lookup_cons]
            simp
          · exact .inr ⟨h, h2⟩
      · rename_i hb
        refine closL_has env r _ x ?_
        rcases h with h | ⟨h, h2⟩
        · exact .inl h
        · rcases List.mem_cons.mp h with h | h
          · cases h; rw [hb] at h2; cases h2
          · exact .inr ⟨h, h2⟩
    · rename_i hk
      refine closL_has env r _ x ?_
      rcases h with h | ⟨h, h2⟩
      · exact .inl h
      · rcases List.mem_cons.mp h with h | h
        · cases h; exact absurd rfl hk
        · exact .inr ⟨h, h2⟩
theorem idx_app {x : Str} : ∀ {l r : List (Option Str)}, (∀ o ∈ l, o ≠ some x) → idx x (l ++ r) = (idx x r).map (· + l.length)
  | [], r, _ => by simp
  | none :: l, r, h => by
    show (idx x (l ++ r)).map (· + 1) = _
    rw [idx_app fun o ho => h o (List.mem_cons_of_mem _ ho)]
    cases idx x r <;> simp [Nat.add_assoc]
  | some y :: l, r, h => by
    have hy : y ≠ x := fun e => h (some y) List.mem_cons_self (by rw [e])
    show (if y = x then some 0 else (idx x (l ++ r)).map (· + 1)) = _
    rw [if_neg hy, idx_app fun o ho => h o (List.mem_cons_of_mem _ ho)]
    cases idx x r <;> simp [Nat.add_assoc]
theorem mapKind_look {T : Tb} : ∀ {names : List (Str × NameKind)} {x : Str}, (names.map fun (n, k) => if k == .free && T.kind n == some .cell then (n, NameKind.cell) else (n, k)).lookup x =
    (names.lookup x).map fun k => if k == .free && T.kind x == some .cell then NameKind.cell else k
  | [], _ => rfl
  | (y, k) :: r, x => by
    rw [List.map_cons]
    have e : (match (y, k) with | (n, k) => if k == .free && T.kind n == some .cell then (n, NameKind.cell) else (n, k)) = (y, if k == .free && T.kind y == some .cell then NameKind.cell else k) := by
      show (if k == .free && T.kind y == some .cell then (y, NameKind.cell) else (y, k)) = _
      split <;> rfl
    rw [e, List.lookup_cons, List.lookup_cons]
    cases hxy : x == y with
    | true => rw [beq_iff_eq.mp hxy]; rfl
    | false => exact mapKind_look
theorem look_mem {names : List (Str × NameKind)} {x : Str} {k : NameKind} (e : names.lookup x = some k) : (x, k) ∈ names := mem_of_lookup e
structure CompOk (T : Tb) (scope : Scope) (vs : List Str) : Prop where
  kf : scope.kind = .function
  noCell : ∀ x ∈ scope.names, x.2 ≠ .cell
  loc : ∀ x ∈ scope.names, x.2 = .local → scope.names.lookup x.1 = some .local
  free : ∀ x, (x, NameKind.free) ∈ scope.names → T.kind x = some .cell ∨ T.kind x = some .free
  vs : ∀ x ∈ vs, scope.names.lookup x = some .local
theorem compOk_of {scope : Scope} {vs : List Str} (e : compOk T scope vs = true) : CompOk T scope vs := by
  unfold compOk at e
  simp only [Bool.and_eq_true, List.all_eq_true] at e
  refine andP2 e ?_; clear e; rintro ⟨e1, e2⟩ e3
  refine ⟨?_, fun x hx => ?_, fun x hx hk => ?_, fun x hx => ?_, fun x hx => beq_iff_eq.mp (e3 x hx)⟩
  · split at e1
    · assumption
    · first | exact deadP e1 | (refine spP e1 ?_; clear e1; rintro rfl rfl) | (refine smP e1 ?_; clear e1; rintro rfl) | cases e1
  · have := (e2 x hx).1.1
    simpa using this
  · have := (e2 x hx).1.2
    rw [hk] at this
    simpa using this
  · have := (e2 _ hx).2
    simpa using this
theorem comp_kind {scope : Scope} {vs : List Str} (x : Str) : (compTb T scope vs).kind x = (scope.names.lookup x).map fun k => if k == .free && T.kind x == some .cell then NameKind.cell else k := mapKind_look
theorem comp_kind_loc {scope : Scope} {vs : List Str} (O : CompOk T scope vs) {x : Str} (hx : x ∈ vs) : (compTb T scope vs).kind x = some .local := by
  rw [comp_kind, O.vs x hx]; rfl
theorem comp_kind_free {scope : Scope} {vs : List Str} (O : CompOk T scope vs) {x : Str} (h : (compTb T scope vs).kind x = some .cell ∨ (compTb T scope vs).kind x = some .free) : (x, NameKind.free) ∈ scope.names := by
  rw [comp_kind] at h
  cases e : scope.names.lookup x with
  | none => rw [e] at h; rcases h with h | h <;> cases h
  | some k =>
    have hm := look_mem e
    rw [e] at h
    have hc := O.noCell _ hm
    cases k with
    | free => exact hm
    | cell => exact absurd rfl hc
    | _ => simp at h
theorem comp_nm {scope : Scope} {vs : List Str} {i : Nat} {x : Str} (hi : (compTb T scope vs).nm[i]? = some (some x)) :
    (i < T.nm.length ∧ T.nm[i]? = some (some x) ∧ ((compTb T scope vs).kind x = some .cell ∨ (compTb T scope vs).kind x = some .free)) ∨ (T.nm.length ≤ i ∧ vs[i - T.nm.length]? = some x) := by
  have e : (compTb T scope vs).nm = T.nm.map (fun o => o.bind fun x => match (compTb T scope vs).kind x with | some .cell | some .free => some x | _ => none) ++ vs.map some := rfl
  rw [e, List.getElem?_append] at hi
  rw [List.length_map] at hi
  split at hi
  · rename_i hlt
    refine .inl ⟨hlt, ?_⟩
    rw [List.getElem?_map] at hi
    refine map1 hi ?_; clear hi; rintro o ho h2
    refine bnd1 h2 ?_; clear h2; rintro y rfl h3
    split at h3
    · rename_i hk; cases h3; exact ⟨ho, .inl hk⟩
    · rename_i hk; cases h3; exact ⟨ho, .inr hk⟩
    · exact deadP h3
  · rename_i hlt
    refine .inr ⟨by lia, ?_⟩
    rw [List.getElem?_map] at hi
    refine map1 hi ?_; clear hi; rintro o ho h2
    cases h2; exact ho
theorem comp_var {scope : Scope} {vs : List Str} (O : CompOk T scope vs) {x : Str} (hx : x ∈ vs) : (compTb T scope vs).var x = (idx x (vs.map some)).map (· + T.nm.length) := by
  have hk := comp_kind_loc O hx
  have hv : (compTb T scope vs).isVar x = true := by unfold Tb.isVar; rw [hk]
  unfold Tb.var
  rw [if_pos hv]
  have e : (compTb T scope vs).nm = T.nm.map (fun o => o.bind fun x => match (compTb T scope vs).kind x with | some .cell | some .free => some x | _ => none) ++ vs.map some := rfl
  rw [e, idx_app, List.length_map]
  intro o ho
  refine exP2 (List.mem_map.mp ho) ?_; rintro p _ rfl
  intro q
  refine bnd1 q ?_; clear q; rintro y rfl h3
  split at h3
  · rename_i hk'; cases h3; rw [hk] at hk'; cases hk'
  · rename_i hk'; cases h3; rw [hk] at hk'; cases hk'
  · exact deadP h3
theorem comp_tg {scope : Scope} {names : List Str} {target : Expr} {ik : IK} (hn : namesOf target = some names) (hik : ikOk ik names = true) (O : CompOk T scope names) :
    TgOk (compTb T scope names) target (decide (ik = .enum)) (ints2 T.nm.length names) ∧ (∀ x i, (compTb T scope names).var x = some i → i ∈ ints2 T.nm.length names → (compTb T scope names).kind x = some .local) := by
  have two : ∀ (x : Str) (i : Nat), (compTb T scope names).var x = some i → T.nm.length ≤ i → (compTb T scope names).kind x = some .local := fun x i hv hi => by
    refine andP2 (Tb.var_get hv) ?_; rintro h1 _
    rcases comp_nm h1 with ⟨h, _⟩ | ⟨_, h⟩
    · lia
    · exact comp_kind_loc O (List.mem_of_getElem? h)
  refine names_of hn ?_ ?_ <;> clear hn
  · rintro x p rfl rfl
    have hik' : ik ≠ .enum := by rintro rfl; cases hik
    rw [decide_eq_false hik']
    have hv : (compTb T scope [x]).var x = some T.nm.length := by
      rw [comp_var O (List.mem_singleton.mpr rfl)]
      simp [idx]
    exact ⟨.one x p _ hv, fun y i hy hi => two y i hy (by simp [ints2] at hi; lia)⟩
  · rintro x y p q k pos hxy rfl rfl
    have hik' : ik = .enum := by cases ik <;> first | rfl | cases hik
    rw [decide_eq_true hik']
    have hv : (compTb T scope [x, y]).var x = some T.nm.length := by
      rw [comp_var O (by simp)]
      simp [idx]
    have hw : (compTb T scope [x, y]).var y = some (T.nm.length + 1) := by
      rw [comp_var O (by simp)]
      simp [idx, hxy]; lia
    exact ⟨.two x y p q pos k _ _ hv hw hxy, fun z i hz hi => two z i hz (by simp [ints2] at hi; lia)⟩
end
end
section
section
variable {c : Cx} {A : Around} {P P' M M₁ M₂ O wr fp : List Addr} {σ σ' σ₁ σ₂ : Sg} {h h' : Heap} {s s₁ s₂ : Shared} {env cenv : Env} {T : Tb} {ρ ρ' ρ₂ : Rho} {d d₁ d₂ : DV} {H : Hd} {n m : Nat}
theorem cellsFrom_none : ∀ (names : List (Str × NameKind)) (n : Nat) (acc : List (Str × Addr)), (∀ x ∈ names, x.2 ≠ .cell) → cellsFrom n names acc = acc
  | [], _, _, _ => rfl
  | (x, k) :: r, n, acc, h => by
    unfold cellsFrom
    have hb : (k == NameKind.cell) = false := by simpa using h _ List.mem_cons_self
    rw [hb]
    exact cellsFrom_none r n acc fun y hy => h y (List.mem_cons_of_mem _ hy)
theorem pushCells_none : ∀ (names : List (Str × NameKind)) (h : Heap), (∀ x ∈ names, x.2 ≠ .cell) → pushCells h names = h
  | [], _, _ => rfl
  | (x, k) :: r, h, hn => by
    unfold pushCells
    have hb : (k == NameKind.cell) = false := by simpa using hn _ List.mem_cons_self
    rw [hb]
    exact pushCells_none r h fun y hy => hn y (List.mem_cons_of_mem _ hy)
noncomputable abbrev cenv0 (scope : Scope) (env : Env) (L : Addr) (cs : List (Str × Addr)) : Env :=
  { scope, locals := L, globals := env.globals, cells := cs, qual := env.qual, func := none, code := env.code, frame := env.frame, builtins := env.builtins }
noncomputable abbrev dictO : Obj := { cls := .type "dict", data := .dict #[] }
theorem new_cenv {scope : Scope} {cs : List (Str × Addr)} {Q : Env → Shared → Prop} (hn : ∀ x ∈ scope.names, x.2 ≠ .cell)
    (q : Q (cenv0 scope env s.heap.objs.size cs) { s with heap := s.heap.push dictO }) : wpAny c.M A (newFunctionEnv scope env.globals cs [] env.qual none .none (some env)) Q (fun _ _ => False) s := by
  simp only [newFunctionEnv, Option.isSome_some, if_true]
  refine wpAny_bind (wpAny_alloc ?_)
  refine wpAny_bind (wpAny_layCells _ (fun name kind cells => by cases hkc : kind == NameKind.cell <;> simp) _ _ _ _ ?_)
  rw [cellsFrom_none _ _ _ hn, pushCells_none _ _ hn]
  exact wpAny_bind (wpAny_pure (wpAny_pure q))
protected theorem W.standIf {M : Model} {α : Type} {b : Bool} {pos : Pos} {k : PUnit → Sem α} {Q : α → Shared → Prop} (h : W M A (k ()) Q s) : W M A (if b = true then (standAt pos >>= k) else k ()) Q s := by
  split
  · exact .bind (.standAt h)
  · exact h
noncomputable abbrev cenv1 (T : Tb) (scope : Scope) (env : Env) (L : Addr) (cs : List (Str × Addr)) : Env :=
  { cenv0 scope env L cs with scope := { scope with names := scope.names.map fun (n, k) => if k == .free && env.scope.kind == .function && env.kindOf n == some .cell then (n, NameKind.cell) else (n, k) } }
theorem cenv_kind (E : EnvOk env T P) {scope : Scope} {vs : List Str} {L : Addr} {cs : List (Str × Addr)} (x : Str) : (cenv1 T scope env L cs).kindOf x = (compTb T scope vs).kind x := by
  show (scope.names.map _).lookup x = (scope.names.map _).lookup x
  congr 1
  refine List.map_congr_left fun y _ => ?_
  obtain ⟨n, k⟩ := y
  dsimp only
  rw [E.kf, E.kind]
  simp
theorem cenv_ok (E : EnvOk env T P) {scope : Scope} {vs : List Str} (O : CompOk T scope vs) (hnd : vs.Nodup) {L : Addr} {Pf : List Addr} (hP : ∀ a ∈ P, a ∈ Pf) (hL : L ∈ Pf) (hLP : L ∉ P) : EnvOk (cenv1 T scope env L (closL env scope.names [])) (compTb T scope vs) Pf := by
  have lk : ∀ x a, (closL env scope.names []).lookup x = some a → env.cells.lookup x = some a := fun x a e => closL_look env scope.names [] x a (fun y b z => by simp at z) e
  refine ⟨O.kf, fun x => cenv_kind E x, E.glob, E.bui, hL, fun x a e => ?_, fun x y a e1 e2 => E.inj x y a (lk _ _ e1) (lk _ _ e2), fun x hx => ?_, fun i j x h1 h2 => ?_⟩
  · have := (E.cel x a (lk x a e)).1
    exact ⟨hP a this, fun z => hLP (by have z' : a = L := z; rw [← z']; exact this)⟩
  · have hf := comp_kind_free O hx
    exact closL_has env scope.names [] x (.inr ⟨hf, E.has x (O.free x hf)⟩)
  · rcases comp_nm h1 with ⟨a1, a2, a3⟩ | ⟨a1, a2⟩ <;> rcases comp_nm h2 with ⟨b1, b2, b3⟩ | ⟨b1, b2⟩
    · exact E.nd i j x a2 b2
    · have := comp_kind_loc O (List.mem_of_getElem? b2)
      rw [this] at a3; rcases a3 with a3 | a3 <;> cases a3
    · have := comp_kind_loc O (List.mem_of_getElem? a2)
      rw [this] at b3; rcases b3 with b3 | b3 <;> cases b3
    · have := (List.getElem?_inj (List.getElem?_eq_some_iff.mp a2).1 hnd).mp (a2.trans b2.symm)
      lia
theorem names_nd {target : Expr} {names : List Str} (hn : namesOf target = some names) : names.Nodup := by
  refine names_of hn ?_ ?_
  · rintro x p _ rfl; exact List.nodup_cons.mpr ⟨List.not_mem_nil, List.nodup_nil⟩
  · rintro x y p q k r h _ rfl
    exact List.nodup_cons.mpr ⟨fun z => h (List.mem_singleton.mp z), List.nodup_cons.mpr ⟨List.not_mem_nil, List.nodup_nil⟩⟩
theorem forget_get {vs : List Nat} : ∀ {ρ : Rho} {k : Nat} {d : DV}, (forget ρ vs)[k]? = some (some d) → k ∉ vs ∧ ρ[k]? = some (some d) := by
  induction vs with
  | nil => intro ρ k d e; exact ⟨by simp, e⟩
  | cons i vs ih =>
    intro ρ k d e
    refine andP2 (ih (ρ := ρ.set i none) e) ?_; rintro h1 h2
    rw [List.getElem?_set] at h2
    split at h2
    · split at h2 <;> cases h2
    · rename_i hne
      exact ⟨by simp only [List.mem_cons, not_or]; exact ⟨fun z => hne z.symm, h1⟩, h2⟩
theorem ints2_mem : ∀ {names : List Str} {n k : Nat}, n ≤ k → k < n + names.length → k ∈ ints2 n names
  | [], n, k, h1, h2 => by simp at h2; lia
  | _ :: r, n, k, h1, h2 => by
    simp only [List.length_cons] at h2
    by_cases h : k = n
    · subst h; simp [ints2]
    · exact List.mem_cons_of_mem _ (ints2_mem (by lia) (by lia))
theorem s_comp {k : Nat} (R : Room A k) (E : EnvOk env T P) {target iter elt : Expr} {scope : Scope} {pos p : Pos} {names : List Str} (hn : namesOf target = some names) (O' : CompOk T scope names) {ik : IK} (hik : ikOk ik names = true) (hset : ∀ l q p, iter ≠ .Set l q p)
    (ihc : ∀ cenv, ES c A cenv (compTb T scope names) H n m) {its : List (List DV)} {ds : List DV} (hlen : its.length ≤ big)
    (src : W c.M A (eval iter env) (Ready c A target (decide (ik = .enum)) P M s σ₁ (NowL its) (EndL its)) s)
    (ct : compL (fun x s => (setAll ρ (ints2 T.nm.length names) x).bind fun ρ' => ev H n (tr m (compTb T scope names) elt) ρ' s) its σ₁ = some (ds, σ'))
    (S : St c P M σ s.heap) (F : Frm c env T P M s.heap ρ) {use : Option (Value → Sem Unit)} {Post : Value → Shared → Prop}
    (hnone : use = none → ∀ v s', Ev c [] P M s σ' (.lst ds) v s' → Post v s')
    (hsome : ∀ u, use = some u → (∀ a ∈ O, a ∈ P) ∧ (∀ (P₁ M₁ : List Addr) (s₁ : Shared) (v : Value), (∀ a ∈ P, a ∈ P₁) → EnvOk env T P₁ → St c P₁ M₁ σ' s₁.heap → Frm c env T P₁ M₁ s₁.heap ρ → VR c M₁ P₁ s₁.heap (.lst ds) v → W c.M A (u v) (fun _ s₂ => Go c O P₁ M₁ s₁ M₁ σ' s₂ ∧ Frm c env T P₁ M₁ s₂.heap ρ₂) s₁) ∧
      (∀ s', (∃ M', Go c O P M s M' σ' s' ∧ Frm c env T P M' s'.heap ρ₂) → Post .none s')) :
    W c.M A (comprehension (.ListComp elt [⟨target, iter, [], 0⟩] scope pos) scope env p (newList []) false (eval iter env) use) Post s := by
  refine andP2 (comp_tg hn hik O') ?_; rintro tg hloc
  have hdl : ds.length ≤ big := by
    have aux : ∀ (its : List (List DV)) (f : List DV → Sg → Option (DV × Sg)) (σ : Sg) (q : List DV × Sg), compL f its σ = some q → q.1.length = its.length := by
      intro its f
      induction its with
      | nil => intro σ q e; cases e; rfl
      | cons a l ih =>
        intro σ q e
        unfold compL at e
        refine bnd1 e ?_; clear e; rintro p _ e
        refine bnd1 e ?_; clear e; rintro p' e2 e
        first | exact deadP e | (refine spP e ?_; clear e; rintro rfl rfl) | (refine smP e ?_; clear e; rintro rfl) | cases e
        simp [ih _ _ e2]
    have := aux _ _ _ _ ct
    simp only at this
    lia
  unfold comprehension
  refine .bind (src.mono fun xv s₁ h₁ => ?_)
  refine byG fun GG kk => ?_
  refine exQ2 h₁ ?_; clear h₁; rintro M₁ sb g₁ go
  refine kk ?_
  clear kk GG
  refine .bind (.standAt ?_)
  have hf : foldedSetIterable iter env xv = pure xv := folded_plain hset
  show W _ _ (foldedSetIterable iter env xv >>= fun x => _) _ _
  rw [hf]
  refine .bind (.pure (.bind (.holding ?_)))
  show W _ _ (pyIter xv) _ _
  refine .of (go _ fun it s' hb => ?_)
  refine byG fun GG kk => ?_
  obtain ⟨I, wr, Pre, rfl, K, kp, hg, ho, hwr, pre⟩ := hb
  refine kk ?_
  clear kk GG
  refine .standIf ?_
  refine .leaf (wpAny_newList ?_)
  have hclos : closureFor scope env = pure (closL env scope.names []) := clos_eq fun x hx => E.has x (O'.free x hx)
  rw [hclos]
  refine .bind (.pure ?_)
  refine .leaf (new_cenv O'.noCell ?_)
  have hsz : (s'.heap.push (lstO #[] 0)).objs.size = s'.heap.objs.size + 1 := Heap.size_push ..
  rw [show ({ s' with heap := s'.heap.push { cls := .type "list", data := .seq ([] : List Value).toArray } } : Shared).heap.objs.size = s'.heap.objs.size + 1 from hsz]
  generalize hDe : s'.heap.objs.size = D
  generalize hLe : D + 1 = L
  have hDL : D ≠ L := by lia
  have hDn : s'.heap.get? D = none := by rw [← hDe]; exact none_of_size
  have hLn : s'.heap.get? L = none := none_of_le (by lia)
  generalize hh2 : (s'.heap.push { cls := .type "list", data := .seq ([] : List Value).toArray }).push dictO = h₂
  have kp2 : Keep s'.heap h₂ := by rw [← hh2]; exact (Keep.push _).trans (Keep.push _)
  have hDg : h₂.get? D = some (lstO #[] 0) := by
    rw [← hh2, ← hDe]; exact Heap.get?_push_of_some _ (Heap.get?_push_size _ rfl)
  have hLg : h₂.get? L = some dictO := by
    rw [← hh2, ← hLe, ← hDe, ← hsz]; exact Heap.get?_push_size _ rfl
  have hnew : ∀ b, sb.heap.get? b ≠ none → b ≠ D ∧ b ≠ L := fun b hb => by
    cases e : sb.heap.get? b with
    | none => exact absurd e hb
    | some o =>
      have := kp _ _ e
      exact ⟨(fun z => by rw [z, hDn] at this; cases this), (fun z => by rw [z, hLn] at this; cases this)⟩
  have hPlive : ∀ b ∈ P, sb.heap.get? b ≠ none := fun b hb z => by obtain ⟨o, ho⟩ := g₁.st.live b hb; rw [z] at ho; cases ho
  have hwn : ∀ b ∈ wr, sb.heap.get? b = none := fun b hb => (hwr b hb).1
  have hwl : ∀ b ∈ wr, ∃ o, s'.heap.get? b = some o := fun b hb => (hwr b hb).2
  have hwDL : ∀ b ∈ wr, b ≠ D ∧ b ≠ L := fun b hb => by
    refine exP1 (hwl b hb) ?_; rintro o ho
    exact ⟨(fun z => by rw [z, hDn] at ho; cases ho), (fun z => by rw [z, hLn] at ho; cases ho)⟩
  have hPwr : ∀ b ∈ P, b ∉ wr := fun b hb z => hPlive b hb (hwn b z)
  have hLP : L ∉ P := fun z => (hnew L (hPlive L z)).2 rfl
  have hDP : D ∉ P := fun z => (hnew D (hPlive D z)).1 rfl
  have hX : ∀ b ∈ [D, L], s'.heap.get? b = none := fun b hb => by
    simp only [List.mem_cons, List.not_mem_nil, or_false] at hb
    rcases hb with rfl | rfl
    · exact hDn
    · exact hLn
  have inP : ∀ b ∈ P, b ∈ [D, L] ++ (wr ++ P) := fun b hb => List.mem_append_right _ (List.mem_append_right _ hb)
  have E' := cenv_ok (Pf := [D, L] ++ (wr ++ P)) (L := L) E O' (names_nd hn) inP (by simp) hLP
  have kall : Keep sb.heap h₂ := kp.trans kp2
  have S₂ : St c ([D, L] ++ (wr ++ P)) M₁ σ₁ h₂ := g₁.st.enter kall (fun b hb => by
      rcases List.mem_append.mp hb with hb | hb
      · refine .inr ?_
        cases e : sb.heap.get? b with
        | none => rfl
        | some o => have := kp _ _ e; rw [hX b hb] at this; cases this
      · rcases List.mem_append.mp hb with hb | hb
        · exact .inr (hwn b hb)
        · exact .inl hb) fun b hb => by
      rcases List.mem_append.mp hb with hb | hb
      · simp only [List.mem_cons, List.not_mem_nil, or_false] at hb
        rcases hb with rfl | rfl
        · exact ⟨_, hDg⟩
        · exact ⟨_, hLg⟩
      · rcases List.mem_append.mp hb with hb | hb
        · obtain ⟨o, ho⟩ := hwl b hb; exact ⟨o, kp2 _ _ ho⟩
        · obtain ⟨o, ho⟩ := g₁.st.live b hb; exact ⟨o, kall _ _ ho⟩
  have F₁ := F.ext E S g₁.ex
  have mo2 : Mono M₁ M₁ P ([D, L] ++ (wr ++ P)) sb.heap h₂ := Mono.enter kall fun b hb => by
      rcases List.mem_append.mp hb with hb | hb
      · refine .inr ?_
        cases e : sb.heap.get? b with
        | none => rfl
        | some o => have := kp _ _ e; rw [hX b hb] at this; cases this
      · rcases List.mem_append.mp hb with hb | hb
        · exact .inr (hwn b hb)
        · exact .inl hb
  have lk : ∀ x a, (closL env scope.names []).lookup x = some a → env.cells.lookup x = some a := fun x a e => closL_look env scope.names [] x a (fun y b z => by simp at z) e
  have nsL : h₂.Ns L (fun _ => none) := ⟨dictO, #[], 0, hLg, rfl, (fun e he => by simp at he), fun x => rfl⟩
  have FC : Frm c (cenv1 T scope env L (closL env scope.names [])) (compTb T scope names) ([D, L] ++ (wr ++ P)) M₁ h₂ (forget ρ (ints2 T.nm.length names)) := by
    refine ⟨⟨_, nsL, fun i x d hi hk hr => ?_⟩, fun x a ha => ?_⟩
    · exfalso
      refine andP2 (forget_get hr) ?_; rintro z1 z2
      rcases comp_nm hi with ⟨a1, a2, a3⟩ | ⟨a1, a2⟩
      · rw [hk] at a3; rcases a3 with a3 | a3 <;> cases a3
      · have := (List.getElem?_eq_some_iff.mp a2).1
        exact z1 (ints2_mem a1 (by lia))
    · refine byG fun GG kk => ?_
      refine exP2 (F₁.cl x a (lk x a ha)) ?_; rintro u hu hm
      refine exP2 hu ?_; clear hu; rintro o ho hd
      refine kk ?_
      clear kk GG
      refine ⟨u, ⟨o, kall _ _ ho, hd⟩, fun i d hi hk hr => ?_⟩
      refine andP2 (forget_get hr) ?_; rintro z1 z2
      rcases comp_nm hi with ⟨a1, a2, a3⟩ | ⟨a1, a2⟩
      · refine exP2 (hm i d a2 (O'.free x (comp_kind_free O' a3)) z2) ?_; rintro w w1 w2
        exact ⟨w, w1, w2.mono mo2⟩
      · have := comp_kind_loc O' (List.mem_of_getElem? a2)
        rw [this] at hk; rcases hk with hk | hk <;> cases hk
  have hown : ∀ a, Own (cenv1 T scope env L (closL env scope.names [])) a → a ∉ wr ∧ a ≠ D := fun a ha => by
    rcases ha with ha | ⟨x, hx⟩
    · have ha' : a = L := ha
      rw [ha']
      exact ⟨fun z => (hwDL L z).2 rfl, hDL.symm⟩
    · have := (E.cel x a (lk x a hx)).1
      exact ⟨hPwr a this, fun z => hDP (z ▸ this)⟩
  have turns := turns_compL (ρ := ρ) (f := fun ρ σ => ev H n (tr m (compTb T scope names) elt) ρ σ) (all := its) its 0 σ₁ _ rfl (Nat.zero_le _) ct
  have gO : Go c [D, L] ([D, L] ++ (wr ++ P)) M₁ sb M₁ σ₁ { s' with heap := h₂ } := ⟨S₂, Ext.of_keep kall, hg, ho⟩
  have loop : ∀ (tk : Tok), CC c.M A (.compLoop (.ListComp elt [⟨target, iter, [], 0⟩] scope pos) 0 (.ref I) (.ref D) (cenv1 T scope env L (closL env scope.names []))) (fun f s'' => CEnd c [D, L] ([D, L] ++ P) M₁ sb L D ds σ' s'') { s' with heap := h₂, toks := tk } := fun tk =>
    comp_loop R tg hloc in_wrX (fun b hb => by
        rcases List.mem_append.mp hb with hb | hb
        · exact List.mem_append_left _ hb
        · exact inP b hb) (fun b hb z => by
        rcases List.mem_append.mp hb with hb | hb
        · simp only [List.mem_cons, List.not_mem_nil, or_false] at hb
          rcases hb with rfl | rfl
          · exact (hwDL _ z).1 rfl
          · exact (hwDL _ z).2 rfl
        · exact hPwr b hb z) (K [D, L]) (ihc _) E' hown hwn rfl (fun a ha => List.mem_append_left _ ha) hdl turns ⟨gO.st, gO.ex, gO.gn, gO.os⟩ FC
      ((K [D, L]).mono 0 M₁ M₁ s'.heap h₂ (pre [D, L] hX) (Keep.mono kp2) fun b _ o e => kp2 _ _ e) ⟨0, hDg⟩
  have hEs : Around.under A (.compStart (.ListComp elt [⟨target, iter, [], 0⟩] scope pos) 0 (.ref I) (.ref D) (cenv1 T scope env L (closL env scope.names []))) = A := Around.under_of_weight rfl
  have start : ∀ (tk : Tok), CC c.M A (.compStart (.ListComp elt [⟨target, iter, [], 0⟩] scope pos) 0 (.ref I) (.ref D) (cenv1 T scope env L (closL env scope.names []))) (fun f s'' => CEnd c [D, L] ([D, L] ++ P) M₁ sb L D ds σ' s'') { s' with heap := h₂, toks := tk } := fun tk => by
    refine CC.tree rfl ?_
    rw [hEs]
    show W _ _ ((compStart (.ListComp elt [⟨target, iter, [], 0⟩] scope pos) 0 (.ref I) (.ref D) (cenv1 T scope env L (closL env scope.names []))).onRaise _) _ _
    refine .onRaise ?_
    unfold compStart
    show W _ _ (ask >>= _) _ _
    refine .leaf (wpAny_askSetting ?_)
    split
    · first
        | exact .bind (.pure (.pure ⟨rfl, rfl, loop tk⟩))
        | exact .pure ⟨rfl, rfl, loop tk⟩
    · refine .leaf (wpAny_rule ?_)
      show W _ _ (standAt iter.pos >>= fun _ => pyIter (.ref I) >>= fun it => again _) _ _
      refine .bind (.standAt (.leaf ((K [D, L]).self 0 M₁ _ _ ((K [D, L]).mono 0 M₁ M₁ s'.heap h₂ (pre [D, L] hX) (Keep.mono kp2) fun b _ o e => kp2 _ _ e) ?_)))
      exact .pure ⟨rfl, rfl, loop tk⟩
  dsimp only
  refine .holding (.bind (.attempt (.holding (.run ((show CC c.M (A.mark none) _ _ _ from start _).mono fun f s₂ ce => ?_) rfl nofun))))
  obtain ⟨M', g₂, ⟨us, kk, hacc, hus⟩, m', hns⟩ := ce
  have hL2 : L ∈ [D, L] ++ P := List.mem_append_left _ (by simp)
  have hD2 : D ∈ [D, L] ++ P := List.mem_append_left _ (by simp)
  have hDM := (g₂.st.off D hD2).1
  have hP1 : ∀ a ∈ L :: P, a ∈ [D, L] ++ P := fun a ha => by
    rcases List.mem_cons.mp ha with rfl | ha
    · exact hL2
    · exact List.mem_append_right _ ha
  have S₃ : St c (L :: P) M' σ' s₂.heap := g₂.st.shrink hP1
  have live2 : ∀ b o, b ∉ M₁ → sb.heap.get? b = some o → s₂.heap.get? b = some o := fun b o h1 e => by
    have hne := hnew b (by rw [e]; simp)
    exact g₂.ex.keep b o h1 (by simp [hne.1, hne.2]) e
  have mo3 : Mono M₁ M' P (L :: P) sb.heap s₂.heap := ⟨g₂.ex.pre, fun a o h1 h2 e => ⟨live2 a o h1 e, fun z => (g₂.ex.new a z).elim h1 (fun q => by rw [q] at e; cases e), by
    have hne := hnew a (by rw [e]; simp)
    simp [hne.2, h2]⟩⟩
  have F₃ : Frm c env T (L :: P) M' s₂.heap ρ := F₁.keep mo3 fun a ha o e => live2 a o (g₁.st.off a (E.own ha)).1 e
  have R₃ : VR c M' (L :: P) s₂.heap (.lst ds) (.ref D) := ⟨D, us, kk, rfl, hDM, by simp [hDL, hDP], hacc, hus.mono (Mono.shrink hP1)⟩
  have X₁ : Ext [] M₁ M' sb.heap s₂.heap := ⟨g₂.ex.pre, g₂.ex.new, (fun _ _ z => nomatch z), fun b o h1 _ e => live2 b o h1 e⟩
  have hkind : (cenv1 T scope env L (closL env scope.names [])).scope.kind = .function := O'.kf
  have hkn : ∀ x ∈ scope.names, x.2 = .local → (cenv1 T scope env L (closL env scope.names [])).kindOf x.1 = some .local := fun x hx hl => by
    rw [cenv_kind (vs := names) E, comp_kind, O'.loc x hx hl]; rfl
  have drop : ∀ {M₃ : List Addr} {σ₃ : Sg} {h₃ h₄ : Heap}, St c (L :: P) M₃ σ₃ h₃ → Heap.SameBut L h₃ h₄ → St c P M₃ σ₃ h₄ ∧ Mono M₃ M₃ (L :: P) P h₃ h₄ := fun {M₃ σ₃ h₃ h₄} S₄ hs => by
    have k1 : ∀ b o, b ∉ [L] → h₃.get? b = some o → h₄.get? b = some o := fun b o hb e => (hs.2 b (by simpa using hb)).trans e
    refine ⟨S₄.drop k1 (fun b hb => by rw [List.mem_singleton.mp hb]; exact List.mem_cons_self) (fun b hb => List.mem_cons_of_mem _ hb) (fun b hb z => hLP (by rw [← List.mem_singleton.mp z]; exact hb)), List.prefix_refl _, fun a o h1 h2 e => ⟨k1 a o (fun z => h2 (by rw [List.mem_singleton.mp z]; exact List.mem_cons_self)) e, h1, fun z => h2 (List.mem_cons_of_mem _ z)⟩⟩
  have hsbL : ∀ b o, sb.heap.get? b = some o → b ≠ L := fun b o e => (hnew b (by rw [e]; simp)).2
  cases use with
  | none =>
    dsimp only
    refine .bind (.holding (.of (wpAny_comp_letGo hkind _ s₂ m' (fun x hx hl => hkn x (List.mem_filter.mp (List.mem_reverse.mp hx)).1 hl) hns fun h₄ m₄ _ hs => ?_)))
    refine andP2 (drop S₃ hs) ?_; rintro S₄ mo4
    have g₄ : Go c [] P M₁ sb M' σ' { s₂ with heap := h₄ } := ⟨S₄, ⟨X₁.pre, X₁.new, (fun a h1 h2 => nomatch h2), fun b o h1 _ e => (hs.2 b (hsbL b o e)).trans (live2 b o h1 e)⟩, g₂.gn, g₂.os⟩
    exact .pure (hnone rfl _ _ (.pre g₁ (.of g₄ (R₃.mono mo4))))
  | some u =>
    dsimp only
    refine andP3 (hsome u rfl) ?_; rintro hOP hu hpost
    refine .leaf (wpAny_rule ?_)
    refine .bind (.holding ((hu (L :: P) M' s₂ (.ref D) (fun a ha => List.mem_cons_of_mem _ ha) (E.more fun a ha => List.mem_cons_of_mem _ ha) S₃ F₃ R₃).mono fun _ s₃ h₃ => ?_))
    refine andP2 h₃ ?_; clear h₃; rintro g₃ F₄
    have hLM : L ∉ M' := (S₃.off L List.mem_cons_self).1
    have hLO : L ∉ O := fun z => hLP (hOP L z)
    have hns3 : s₃.heap.Ns L m' := hns.at' fun o e => g₃.ex.keep L o hLM hLO e
    refine .leaf (wpAny_comp_letGo hkind _ s₃ m' (fun x hx hl => hkn x (List.mem_filter.mp (List.mem_reverse.mp (by
        rcases List.mem_append.mp hx with hx | hx
        · exact List.mem_of_mem_drop hx
        · exact List.mem_of_mem_take hx))).1 hl) hns3 fun h₄ m₄ _ hs => ?_)
    refine andP2 (drop g₃.st hs) ?_; rintro S₄ mo4
    refine .pure (hpost _ ⟨M', (g₁.own hOP).trans ⟨S₄, ⟨X₁.pre, X₁.new, (fun a h1 h2 => absurd h1 (S₄.off a (hOP a h2)).1), fun b o h1 h2 e => (hs.2 b (hsbL b o e)).trans (g₃.ex.keep b o (fun z => (X₁.new b z).elim h1 fun q => by rw [q] at e; cases e) h2 (live2 b o h1 e))⟩, g₃.gn.trans g₂.gn, g₃.os.trans g₂.os⟩, ?_⟩)
    exact F₄.keep mo4 fun a ha o e => (hs.2 a fun z => hLP (by have z' : a = L := z; rw [← z']; exact E.own ha)).trans e
end
end
section
section
variable {c : Cx} {A : Around} {P P' M M₁ M₂ O wr fp : List Addr} {σ σ' σ₁ σ₂ : Sg} {h h' : Heap} {s s₁ s₂ : Shared} {env cenv : Env} {T : Tb} {ρ ρ' ρ₂ : Rho} {d d₁ d₂ : DV} {H : Hd} {n m : Nat}
noncomputable def NowZ (la : Nat) (lb : List DV) (i : Nat) (σ : Sg) (ds : List DV) : Prop := ∃ l x y, items σ (.loc la) = some l ∧ l[i]? = some x ∧ lb[i]? = some y ∧ ds = [x, y]
noncomputable def EndZ (la : Nat) (lb : List DV) (i : Nat) (σ : Sg) : Prop := i = lb.length ∧ ∃ l, items σ (.loc la) = some l
structure ZPre (c : Cx) (P : List Addr) (z TI TO i1 i2 l1 l2 : Addr) (la : Nat) (lb : List DV) (ys : Array Value) (i : Nat) (M : List Addr) (h : Heap) : Prop where
  hz : IsZip h z TI TO .none
  hTI : IsPair h TI (.ref i1) (.ref i2)
  hTO : ∃ a b, IsPair h TO a b
  h1 : h.IsListIter i1 l1 i
  h2 : h.IsListIter i2 l2 i
  g2 : ∃ k, h.get? l2 = some (lstO ys k)
  m2 : l2 ∉ M ∧ l2 ∉ P
  v2 : VRs c M P h lb ys.toList
  hM : M[la]? = some l1
theorem list_at (S : St c P M σ h) {la : Nat} {l1 : Addr} {l : List DV} (hM : M[la]? = some l1) (e : items σ (.loc la) = some l) : ∃ vs k, h.get? l1 = some (lstO vs k) ∧ VRs c M P h l vs.toList :=
  S.objs la l1 _ hM (listAt_eq e)
theorem Wk.zip {elts : List Expr} {k : Nat} {pos : Pos} (hh : A.handled = none) {z TI TO i1 i2 l1 l2 : Addr} (D : ZipApart z TI TO i1 i2 l1 l2) {la : Nat} {lb : List DV} {ys : Array Value} (hw : ∀ b ∈ [z, TI, TO, i1, i2], b ∈ P) :
    Wk c A (.Tuple elts k pos) true z [z, TI, TO, i1, i2] P (NowZ la lb) (EndZ la lb) (ZPre c P z TI TO i1 i2 l1 l2 la lb ys) where
  mono := fun i M M' h h' x mo kp => by
    refine byG fun GG kk => ?_
    obtain ⟨hz, hTI, ⟨a, b, hTO⟩, h1, h2, ⟨k2, g2⟩, m2, v2, hM⟩ := x
    refine andP3 (mo.pure l2 _ m2.1 m2.2 g2) ?_; rintro q1 q2 q3
    refine kk ?_
    clear kk GG
    exact ⟨kp z (by simp) _ hz, kp TI (by simp) _ hTI, ⟨a, b, kp TO (by simp) _ hTO⟩, h1.at fun o e => kp i1 (by simp) o e, h2.at fun o e => kp i2 (by simp) o e, ⟨k2, q1⟩, ⟨q2, q3⟩, v2.mono mo, prefix_get mo.pre hM⟩
  turn := fun i M σ ds s Q hn S x hQ => by
    refine byG fun GG kk => ?_
    obtain ⟨hz, hTI, ⟨a, b, hTO⟩, h1, h2, ⟨k2, g2⟩, m2, v2, hM⟩ := x
    refine exR4 hn ?_; clear hn; rintro l dx dy e1 e2 e3 rfl
    refine exQ2 (list_at S hM e1) ?_; rintro vs k1 g1 v1
    refine exP2 (v1.get e2) ?_; rintro vx hx rx
    refine exP2 (v2.get e3) ?_; rintro vy hy ry
    refine kk ?_
    clear kk GG
    rw [Array.getElem?_toList] at hx hy
    refine wpAny_pyNext_zip_item D hz hTI hTO h1 h2 (isList g1) (isList g2) hx hy fun h₁ a1 a2 a3 a4 a5 a6 hk => ?_
    have lt : ∀ {c o}, s.heap.get? c = some o → s.heap.objs.size ≠ c := fun e => Nat.ne_of_gt (Heap.lt_size e)
    refine wpAny_letOwnedTupleGo_zip (s := { s with heap := h₁ }) a1 fun h₂ b1 hs => ?_
    have koff : ∀ b o, b ∉ [z, TI, TO, i1, i2] → s.heap.get? b = some o → h₂.get? b = some o := fun b o hb e => by
      simp only [List.mem_cons, List.not_mem_nil, or_false, not_or] at hb
      exact (hs.2 b hb.1).trans (hk b o hb.1 hb.2.2.1 hb.2.2.2.1 hb.2.2.2.2 e)
    have mo := off_mono (M := M) hw koff
    have hTI' := (hs.2 TI D.TIz).trans (hk TI _ D.TIz D.TITO D.TIi1 D.TIi2 hTI)
    have hTO' := (hs.2 TO D.TOz).trans a2
    have h1' := a3.extBut hs.extBut D.i1z
    have h2' := a4.extBut hs.extBut D.i2z
    have a5' := (hs.2 _ (lt hz)).trans a5
    have g2' := koff l2 _ (fun hb => m2.2 (hw _ hb)) g2
    refine hQ _ h₂ s.toks koff (fun b hb => ?_) ⟨b1, hTI', ⟨_, _, hTO'⟩, h1', h2', ⟨k2, g2'⟩, m2, v2.mono mo, hM⟩ ⟨_, #[vx, vy], rfl, ⟨_, a5', rfl, _, rfl⟩, VRs.cons (rx.mono mo) (VRs.cons (ry.mono mo) VRs.nil)⟩
    simp only [List.mem_cons, List.not_mem_nil, or_false] at hb
    rcases hb with rfl | rfl | rfl | rfl | rfl
    · exact ⟨_, b1⟩
    · exact ⟨_, hTI'⟩
    · exact ⟨_, hTO'⟩
    · obtain ⟨o, ho, _⟩ := h1'; exact ⟨o, ho⟩
    · obtain ⟨o, ho, _⟩ := h2'; exact ⟨o, ho⟩
  done := fun i M σ s Q he S x hQ => by
    refine byG fun GG kk => ?_
    obtain ⟨hz, hTI, ⟨a, b, hTO⟩, h1, h2, ⟨k2, g2⟩, m2, v2, hM⟩ := x
    obtain ⟨rfl, l, e1⟩ := he
    refine exQ2 (list_at S hM e1) ?_; rintro vs k1 g1 v1
    refine kk ?_
    clear kk GG
    have hl := v2.length
    simp only [Array.length_toList] at hl
    refine wpAny_pyNext_zip_end hh D hz hTI hTO h1 h2 (isList g1) (isList g2) (.inr (Array.getElem?_eq_none (by lia))) fun h' hk => hQ h' s.toks fun b o hb e => ?_
    simp only [List.mem_cons, List.not_mem_nil, or_false, not_or] at hb
    exact hk b o hb.1 hb.2.2.1 hb.2.2.2.1 hb.2.2.2.2 e
  self := fun i M s Q x q => wpAny_pyIter_zip x.hz q
theorem begin_zip {elts : List Expr} {k : Nat} {pos : Pos} (hh : A.handled = none) {la : Nat} {l lb : List DV} {v1 v2 : Value} (S : St c P M σ s.heap) (e : items σ (.loc la) = some l) (r1 : VR c M P s.heap (.loc la) v1) (r2 : VR c M P s.heap (.lst lb) v2) {Q : Value → Shared → Prop}
    (q : ∀ xv s₁, (∀ (Q' : Value → Shared → Prop), (∀ it s', Begun c A (.Tuple elts k pos) true P M s (NowZ la lb) (EndZ la lb) it s' → Q' it s') → wpAny c.M A (pyIter xv) Q' (fun _ _ => False) s₁) → Q xv s₁) :
    wpAny c.M A (call (.type "zip") [v1, v2]) Q (fun _ _ => False) s := by
  refine byG fun GG kk => ?_
  refine exP2 r1 ?_; clear r1; rintro l1 rfl hM
  obtain ⟨l2, ys, k2, rfl, m2, p2, g2, hys⟩ := r2
  refine exQ2 (list_at S hM e) ?_; rintro vs k1 g1 _
  refine kk ?_
  clear kk GG
  have hlt1 := Heap.lt_size g1
  have hlt2 := Heap.lt_size g2
  have hD : ZipApart (s.heap.objs.size + 4) (s.heap.objs.size + 2) (s.heap.objs.size + 3) s.heap.objs.size (s.heap.objs.size + 1) l1 l2 := ktu_apart _ _ _ hlt1 hlt2
  refine call_zip_2 (isList g1) (isList g2) fun h' hz hTI hTO hi1 hi2 hsz hk => q _ _ fun Q' q' => ?_
  refine wpAny_pyIter_zip hz (q' _ _ ?_)
  have hn : ∀ b ∈ [s.heap.objs.size + 4, s.heap.objs.size + 2, s.heap.objs.size + 3, s.heap.objs.size, s.heap.objs.size + 1], s.heap.get? b = none := fun b hb => by
    simp only [List.mem_cons, List.not_mem_nil, or_false] at hb
    exact none_of_le (by rcases hb with rfl | rfl | rfl | rfl | rfl <;> lia)
  refine ⟨_, [s.heap.objs.size + 4, s.heap.objs.size + 2, s.heap.objs.size + 3, s.heap.objs.size, s.heap.objs.size + 1], _, rfl, fun X => Wk.zip hh hD in_wrX, hk, rfl, rfl, fun b hb => ⟨hn b hb, ?_⟩, fun X hX => ⟨hz, hTI, ⟨_, _, hTO⟩, hi1, hi2, ⟨k2, hk _ _ g2⟩, ⟨m2, ?_⟩, hys.mono (enter_monoX S hk hn hX), hM⟩⟩
  · simp only [List.mem_cons, List.not_mem_nil, or_false] at hb
    rcases hb with rfl | rfl | rfl | rfl | rfl
    · exact ⟨_, hz⟩
    · exact ⟨_, hTI⟩
    · exact ⟨_, hTO⟩
    · obtain ⟨o, ho, _⟩ := hi1; exact ⟨o, ho⟩
    · obtain ⟨o, ho, _⟩ := hi2; exact ⟨o, ho⟩
  · intro hb
    rcases List.mem_append.mp hb with hb | hb
    · exact not_X hX (hk _ _ g2) hb
    · rcases List.mem_append.mp hb with hb | hb
      · rw [hn _ hb] at g2; cases g2
      · exact p2 hb
theorem s_src_zip {k : Nat} (ih : ES c A env T H n m) (R : Room A k) (E : EnvOk env T P) (G : Gok c T.gl) {f a b : Expr} {pc : Pos} {elts : List Expr} {kk : Nat} {pos : Pos} {la : Nat} {lb l : List DV} (hf : isName T "zip" (.type "zip") f = true)
    (e1 : ev H n (tr m T a) ρ σ = some (.loc la, σ₁)) (e2 : ev H n (tr m T b) ρ σ₁ = some (.lst lb, σ₂)) (e3 : items σ₂ (.loc la) = some l) (S : St c P M σ s.heap) (F : Frm c env T P M s.heap ρ) :
    W c.M A (eval (.Call f [a, b] [] pc) env) (Ready c A (.Tuple elts kk pos) true P M s σ₂ (fun _ => NowZ la lb) (fun _ => EndZ la lb)) s := by
  have hh := R.hh
  refine byG fun GG kk => ?_
  refine exP3 (isName_eq hf) ?_; rintro pf rfl hk hg
  refine kk ?_
  clear kk GG
  have ee : evL (fun e s => ev H n e ρ s) ([a, b].map (tr m T)) σ = some ([.loc la, .lst lb], σ₂) := by
    show (ev H n (tr m T a) ρ σ).bind _ = _
    rw [e1]
    show ((ev H n (tr m T b) ρ σ₁).bind _).bind _ = _
    rw [e2]; rfl
  show W _ _ (eval (.Name "zip" pf) env >>= fun v => callWith pc v [] (backTo pc (starEach [a, b] env)) []) _ _
  refine .leaf (ld_glob E S G (by decide) hk hg fun _ => ?_)
  have hpl := plain_args (env := env) (pos := pc) ee
  have sa := s_args (pos := pc) ih E [a, b] σ _ _ M s S F ee
  rw [hpl] at sa ⊢
  refine .callWith (sa.mono fun vs s₁ h₁ => ⟨keeper_plain (by intro _ q; cases q), ?_⟩)
  refine byG fun GG kk => ?_
  refine exP2 h₁ ?_; clear h₁; rintro M₁ g₁ r₁
  refine exQ3 (VRs.two (s := s₁) r₁) ?_; rintro v w rfl rv rw'
  refine kk ?_
  clear kk GG
  refine .of (begin_zip (elts := elts) (k := kk) (pos := pos) hh g₁.st e3 rv rw' fun xv s₂ q => ?_)
  exact ⟨M₁, s₁, g₁, fun Q' q' => q Q' q'⟩
theorem turns_forZL {i j la : Nat} {f : Rho → Sg → Out} {lb : List DV} : ∀ (r : List DV) (k : Nat) (ρ : Rho) (σ : Sg) (q : Fl × Rho × Sg), lb.drop k = r → k ≤ lb.length → forZL (fun x ρ' s => (setAll ρ' [i, j] x).bind fun ρ'' => f ρ'' s) la k r ρ σ = some q →
    Turns [i, j] (NowZ la lb) (EndZ la lb) f r.length k ρ σ q
  | [], k, ρ, σ, q, hd, hk, e => by
    refine bnd1 e ?_; clear e; rintro l e1 e2
    first | exact deadP e2 | (refine spP e2 ?_; clear e2; rintro rfl rfl) | (refine smP e2 ?_; clear e2; rintro rfl) | cases e2
    refine .done ⟨?_, l, e1⟩
    have := List.drop_eq_nil_iff.mp hd
    lia
  | y :: r, k, ρ, σ, q, hd, hk, e => by
    have hlt : k < lb.length := by
      rcases Nat.lt_or_ge k lb.length with h | h
      · exact h
      · rw [List.drop_eq_nil_iff.mpr h] at hd; cases hd
    have hy : lb[k]? = some y := by rw [← List.head?_drop, hd]; rfl
    have hd' : lb.drop (k + 1) = r := by rw [← List.tail_drop, hd]; rfl
    refine bnd1 e ?_; clear e; intro l e1 e
    refine bnd1 e ?_; clear e; intro x hx e
    refine bnd1 e ?_; clear e; rintro ⟨fl, ρ₁, σ₁⟩ e3 e4
    refine bnd1 e3 ?_; clear e3; intro ρ₂ e5 e6
    have now : NowZ la lb k σ [x, y] := ⟨l, x, y, e1, hx, hy, rfl⟩
    cases fl with
    | ret d => cases e4; exact .ret now e5 e6
    | next => exact .step now e5 e6 (fun d z => by cases z) (turns_forZL r (k + 1) _ _ _ hd' hlt e4)
    | cont => exact .step now e5 e6 (fun d z => by cases z) (turns_forZL r (k + 1) _ _ _ hd' hlt e4)
end
end
section
structure TOk (c : Cx) (T : Tb) : Prop where
  g : Gok c T.gl
  k : Kok c T.ats
  m : Mok c T.mt
theorem TOk.comp {c : Cx} {T : Tb} {scope : Scope} {vs : List Str} (O : TOk c T) : TOk c (compTb T scope vs) := ⟨O.g, O.k, O.m⟩
section
variable {c : Cx} {H : Hd} {k : Nat}
theorem src_set {T : Tb} {n m : Nat} {ρ : Rho} {σ : Sg} {iter : Expr} {p : DV × Sg} (e : ev H n (tr m T (srcOf T iter).2) ρ σ = some p) : ∀ l q r, iter ≠ .Set l q r := by
  rintro l q r rfl
  exact tr_not_set e l q r rfl
theorem comp_any {n m : Nat} (ih : ∀ (A : Around) (env : Env) (T : Tb), Room A k → TOk c T → ES c A env T H n m ∧ TS c A env T H n m) {A : Around} {env : Env} {T : Tb} (R : Room A k) (O : TOk c T)
    {elt : Expr} {gens : List Comprehension} {scope : Scope} {pos p : Pos} {ρ ρ₂ : Rho} {σ σ' : Sg} {d : DV} (h : ev H (n + 1) (tr (m + 1) T (.ListComp elt gens scope pos)) ρ σ = some (d, σ')) {P M OO : List Addr} {s : Shared} (E : EnvOk env T P) (S : St c P M σ s.heap) (F : Frm c env T P M s.heap ρ)
    {use : Option (Value → Sem Unit)} {Post : Value → Shared → Prop}
    (hnone : use = none → ∀ v s', Ev c [] P M s σ' d v s' → Post v s')
    (hsome : ∀ u, use = some u → (∀ a ∈ OO, a ∈ P) ∧ (∀ (P₁ M₁ : List Addr) (s₁ : Shared) (v : Value), (∀ a ∈ P, a ∈ P₁) → EnvOk env T P₁ → St c P₁ M₁ σ' s₁.heap → Frm c env T P₁ M₁ s₁.heap ρ → VR c M₁ P₁ s₁.heap d v → W c.M A (u v) (fun _ s₂ => Go c OO P₁ M₁ s₁ M₁ σ' s₂ ∧ Frm c env T P₁ M₁ s₂.heap ρ₂) s₁) ∧
      (∀ s', (∃ M', Go c OO P M s M' σ' s' ∧ Frm c env T P M' s'.heap ρ₂) → Post .none s')) :
    W c.M A (comprehension (.ListComp elt gens scope pos) scope env p (newList []) (firstAsync gens) (firstIter gens env) use) Post s := by
  refine andP2 (ih A env T R O) ?_; rintro ie it
  refine optE_P h ?_; clear h; rintro ⟨target, iter⟩ h1 h
  cases comp_of' h1
  refine optE_P h ?_; clear h h1; rintro vs hv h
  refine ifE_P h ?_; clear h; rintro hc h
  refine andP2 (Bool.and_eq_true_iff.mp hc) ?_; clear hc; rintro hc hik
  refine bndP h ?_; clear h; rintro d₁ σ₁ e1 h
  refine bnd1 h ?_; clear h; rintro its e2 h
  refine ifP h ?_; clear h; rintro hlen h
  refine bndP h ?_; clear h; rintro ds σ₂ e3 h
  refine spP h ?_; clear h; rintro rfl rfl
  refine s_comp R E hv (compOk_of hc) hik (src_set e1) (fun cenv => (ih A cenv _ R O.comp).1) hlen ?_ e3 S F hnone hsome
  refine names_of hv ?_ ?_ <;> clear hv
  · rintro x px rfl rfl
    have he : (srcOf T iter).1 ≠ .enum := by intro z; rw [z] at hik; cases hik
    rw [decide_eq_false he]
    exact s_src_name ie R E O.g he src_np e1 e2 S F
  · rintro x y px py kx r hxy rfl rfl
    have he : (srcOf T iter).1 = .enum := by
      cases q : (srcOf T iter).1 <;> rw [q] at hik <;> first | rfl | cases hik
    rw [decide_eq_true he]
    exact s_src_enum ie R E O.g he e1 e2 S F
theorem trN_var {T : Tb} {x : Str} {n : Nat} {ρ : Rho} {σ : Sg} {r : DV × Sg} {X : Prop} (h : ev H (n + 1) (trN T x) ρ σ = some r) (kg : ¬ (x = "__debug__" ∨ x = "__classdict__") → T.kind x = some .globalImplicit → ∀ u, T.gl x = some u → r = (.con u, σ) → X)
    (kv : ¬ (x = "__debug__" ∨ x = "__classdict__") → ∀ i d, T.var x = some i → ρ.getD i none = some d → r = (d, σ) → X) : X :=
  iteP (p := fun e => ev H (n + 1) e ρ σ = some r) h (fun _ h => ev_stk' h) fun hx h => iteP (p := fun e => ev H (n + 1) e ρ σ = some r) h
    (fun hk h => optE_P h fun u hu h => kg hx hk u hu (Option.some.inj h).symm)
    (fun _ h => optE_P h fun i hi h => bnd1 h fun d h1 h2 => kv hx i d hi h1 (Option.some.inj h2).symm)
theorem s_methods {n m : Nat} {A : Around} {env : Env} {T : Tb} {P M : List Addr} {s : Shared} {ρ : Rho} {σ σ' : Sg} {d : DV} (ie : ES c A env T H n m) (E : EnvOk env T P) (R : Room A k) (hs : HS c k H) (O : TOk c T) {o : Expr} {x : Str} {args : List Expr} {apos pos : Pos}
    (hc : (baseOk o && apos.endLine == pos.line && decide (args.length < 20)) = true) (h : ev H (n + 1) (trMeth (tr m T) T o x args) ρ σ = some (d, σ')) (S : St c P M σ s.heap) (F : Frm c env T P M s.heap ρ) :
    W c.M A (eval (.Call (.Attribute o x apos) args [] pos) env) (Ev c [] P M s σ' d) s := by
  refine andP2 (Bool.and_eq_true_iff.mp hc) ?_; clear hc; intro hc hn
  refine andP2 (Bool.and_eq_true_iff.mp hc) ?_; clear hc; intro hb hl
  have gen : ev H (n + 1) (optE (T.mt x args.length) fun p => .meth p.1 p.2 x (tr m T o) (args.map (tr m T))) ρ σ = some (d, σ') → W c.M A (eval (.Call (.Attribute o x apos) args [] pos) env) (Ev c [] P M s σ' d) s := fun h =>
    optE_P h fun p hm h => s_meth ie E R hs O.k (O.m.ok _ _ _ _ hm) hb hl (of_decide_eq_true hn) h S F
  have G := @iteP IE (W c.M A (eval (.Call (.Attribute o x apos) args [] pos) env) (Ev c [] P M s σ' d) s) (fun e => ev H (n + 1) e ρ σ = some (d, σ'))
  refine elimP (p := fun e => ev H (n + 1) e ρ σ = some (d, σ')) h (fun _ => gen) fun a ha h => ?_
  cases one_of ha
  refine G h (fun hx h => ?_) fun _ h => G h (fun hx h => ?_) fun _ h => G h (fun hx h => ?_) fun _ => gen
  · cases hx; exact s_app ie E hb hl h S F
  · cases hx; exact s_pop ie E hb hl h S F
  · cases hx; exact s_dget ie E hb hl h S F
theorem es_step (hs : HS c k H) {n m : Nat} (ih : ∀ (A : Around) (env : Env) (T : Tb), Room A k → TOk c T → ES c A env T H n m ∧ TS c A env T H n m) {A : Around} {env : Env} {T : Tb} (R : Room A k) (O : TOk c T) : ES c A env T H (n + 1) (m + 1) := by
  refine andP2 (ih A env T R O) ?_; rintro ie it
  intro e
  cases e with
  | Constant k _ _ => exact fun ρ σ d σ' h P M s E S F => s_const S h
  | Name x pos =>
    intro ρ σ d σ' h P M s E S F
    refine trN_var h (fun hx hk u hu hr => ?_) (fun hx i d' hi h1 hr => ?_)
    · cases hr
      exact .of (ld_glob E S O.g (fun z => hx (.inl z)) hk hu fun hh => .here' S ⟨rfl, hh⟩)
    · cases hr
      exact .of (ld_var E F (not_or.mp hx) hi h1 fun v r => .here' S r)
  | BoolOp op l pos =>
    intro ρ σ d σ' h P M s E S F
    refine optE_P h ?_; clear h; intro p h1 h
    cases two_of h1
    cases op
    · exact s_and ie E h S F
    · exact s_or ie E h S F
  | BinOp a op b pos => exact fun ρ σ d σ' h P M s E S F => s_bin ie E h S F
  | UnaryOp op a pos =>
    cases op with
    | USub => exact fun ρ σ d σ' h P M s E S F => s_neg ie E h S F
    | Not => exact fun ρ σ d σ' h P M s E S F => s_not ie E h S F
    | _ => exact fun ρ σ d σ' h P M s E S F => deadP h
  | IfExp test a b pos => exact fun ρ σ d σ' h P M s E S F => s_ite ie it E h S F
  | Dict keys values pos => exact fun ρ σ d σ' h P M s E S F => optE_P h fun ks hk h => s_dct ie E hk h S F
  | List l pos => exact fun ρ σ d σ' h P M s E S F => s_lst ie E h S F
  | Tuple l kk pos => exact fun ρ σ d σ' h P M s E S F => s_tup ie E h S F
  | Compare a ops rs pos =>
    intro ρ σ d σ' h P M s E S F
    refine optE_P h ?_; clear h; intro op h1 h
    refine optE_P h ?_; clear h; intro b h2 h
    cases one_of h1; cases one_of h2
    exact s_cmp ie E R h S F
  | Attribute a x pos => exact fun ρ σ d σ' h P M s E S F => ifE_P h fun hc h => s_attr ie E O.k (Bool.and_eq_true_iff.mp hc).1 (of_decide_eq_true (Bool.and_eq_true_iff.mp hc).2) h S F
  | Subscript a i pos =>
    intro ρ σ d σ' h P M s E S F
    refine elimP (p := fun e => ev H (n + 1) e ρ σ = some (d, σ')) h (fun _ h => s_sub ie E h S F) fun q hq h => ?_
    obtain ⟨p, rfl⟩ := slice_of hq
    exact s_sl ie E h S F
  | Call f args kw pos =>
    intro ρ σ d σ' h P M s E S F
    refine ifE_P h ?_; clear h; intro hk h
    cases List.isEmpty_iff.mp hk
    refine elimP (p := fun e => ev H (n + 1) e ρ σ = some (d, σ')) h (fun hq h => ifE_P h fun hl h' => ?_) (fun q hq h => ifE_P h fun hc h' => ?_); all_goals clear h
    · exact elimP (p := fun e => ev H (n + 1) e ρ σ = some (d, σ')) h' (fun hb h => s_call ie E R hs O.k (attr_none hq) h S F) fun b hb h => s_prim ie E R O.g hb h S F
    · cases attr_of hq
      exact s_methods ie E R hs O hc h' S F
  | ListComp elt gens scope pos => exact fun ρ σ d σ' h P M s E S F => comp_any ih R O h (OO := []) (ρ₂ := ρ) E S F (fun _ v s' x => x) (fun u hu => deadP hu)
  | _ => exact fun ρ σ d σ' h P M s E S F => deadP h
theorem ts_step {n m : Nat} {A : Around} {env : Env} {T : Tb} (R : Room A k) (ie : ES c A env T H n m) (it : TS c A env T H n m) (ie' : ES c A env T H (n + 1) (m + 1)) : TS c A env T H (n + 1) (m + 1) := by
  intro e ρ σ b σ' h P M s E S F
  have val : (isTrue e env (eval e env) = (eval e env >>= fun v => standAt e.pos >>= fun _ => holding [v] (truthy v))) → W c.M A (isTrue e env (eval e env)) (fun t s' => t = b ∧ ∃ M', Go c [] P M s M' σ' s') s :=
    fun he => t_value ie' E h S F he
  cases e with
  | UnaryOp op x pos =>
    cases op with
    | Not => exact t_not it E h S F
    | _ => exact val rfl
  | BoolOp op values pos =>
    refine optE_P h ?_; clear h; intro p h1 h
    cases two_of h1
    cases op
    · exact t_and it E h S F
    · exact t_or it E h S F
  | IfExp test body orelse pos => exact t_ite it E h S F
  | Compare l ops rs pos =>
    refine optE_P h ?_; clear h; intro op h1 h
    refine optE_P h ?_; clear h; intro b h2 h
    cases one_of h1; cases one_of h2
    exact t_cmp ie E R h S F
  | _ => exact val rfl
theorem ev_sound (hs : HS c k H) : ∀ (n m : Nat) (A : Around) (env : Env) (T : Tb), Room A k → TOk c T → ES c A env T H n m ∧ TS c A env T H n m
  | 0, m, A, env, T, _, _ => ⟨(fun e ρ σ d σ' h => by cases h), fun e ρ σ d σ' h => by cases h⟩
  | n + 1, 0, A, env, T, _, _ => ⟨(fun e ρ σ d σ' h => by cases h), fun e ρ σ d σ' h => by cases h⟩
  | n + 1, m + 1, A, env, T, R, O => by
    have ih := fun (A : Around) (env : Env) (T : Tb) => ev_sound hs n m A env T
    have ie' := es_step hs ih (A := A) (env := env) R O
    exact ⟨ie', ts_step R (ih A env T R O).1 (ih A env T R O).2 ie'⟩
end
end
section
noncomputable def setV (k : Str) (v : Value) : List Str → List Value → List Value
  | k' :: ks, d :: ds => (if k' = k then v else d) :: setV k v ks ds
  | _, _ => []
theorem setV_cons (x k : Str) (v u : Value) (ks : List Str) (us : List Value) : setV x v (k :: ks) (u :: us) = (if k = x then v else u) :: setV x v ks us := rfl
theorem setD_cons (x k : Str) (v u : DV) (ks : List Str) (us : List DV) : setD x v (k :: ks) (u :: us) = (if k = x then v else u) :: setD x v ks us := rfl
section
variable {c : Cx} {A : Around} {P P' M M₁ M₂ O : List Addr} {σ σ' σ₁ σ₂ : Sg} {h h' : Heap} {s s₁ s₂ : Shared} {env : Env} {T : Tb} {ρ ρ' : Rho} {d d₁ d₂ : DV} {H : Hd} {n m : Nat}
theorem zip_set (x : Str) (v : Value) : ∀ {ks : List Str} {vs : List Value}, ks.length = vs.length → (ks.zip vs).map (fun kv => if kv.1 = x then (kv.1, v) else kv) = ks.zip (setV x v ks vs)
  | [], [], _ => rfl
  | k :: ks, u :: us, e => by
    have := zip_set x v (ks := ks) (vs := us) (by simpa using e)
    simp only [List.zip_cons_cons, List.map_cons, setV_cons]
    rw [this]
    split <;> rfl
  | [], _ :: _, e => by cases e
  | _ :: _, [], e => by cases e
theorem setV_len (x : Str) (v : Value) : ∀ {ks : List Str} {vs : List Value}, ks.length = vs.length → ks.length = (setV x v ks vs).length
  | [], [], _ => rfl
  | k :: ks, u :: us, e => by simp only [setV_cons, List.length_cons]; rw [← setV_len x v (ks := ks) (vs := us) (by simpa using e)]
  | [], _ :: _, e => by cases e
  | _ :: _, [], e => by cases e
theorem setV_rel {x : Str} {v : Value} (r : VR c M P h d v) : ∀ {ks : List Str} {vs : List Value} {ds : List DV}, ks.length = vs.length → VRs c M P h ds vs → VRs c M P h (setD x d ks ds) (setV x v ks vs)
  | [], [], ds, _, hv => by exact VRs.nil
  | k :: ks, u :: us, [], _, hv => by unfold VRs at hv; cases hv
  | k :: ks, u :: us, e :: ds, hl, hv => by
    unfold VRs at hv
    refine exQ3 hv ?_; clear hv; rintro _ _ q h1 h2
    first | exact deadP q | (refine spP q ?_; clear q; rintro rfl rfl) | (refine smP q ?_; clear q; rintro rfl) | cases q
    simp only [setD_cons, setV_cons]
    refine VRs.cons ?_ (setV_rel r (by simpa using hl) h2)
    split <;> assumption
  | [], _ :: _, _, e, _ => by cases e
  | _ :: _, [], _, e, _ => by cases e
theorem zip_any (x : Str) : ∀ {ks : List Str} {vs : List Value}, ks.length = vs.length → ((ks.zip vs).any (fun kv => decide (kv.1 = x)) = true ↔ x ∈ ks)
  | [], [], _ => by simp
  | k :: ks, u :: us, e => by
    have := zip_any x (ks := ks) (vs := us) (by simpa using e)
    simp only [List.zip_cons_cons, List.any_cons, Bool.or_eq_true, this, List.mem_cons, decide_eq_true_eq]
    exact or_congr_left eq_comm
  | [], _ :: _, e => by cases e
  | _ :: _, [], e => by cases e
theorem zip_stored {x : Str} {v : Value} {ks : List Str} {vs : List Value} {ds : List DV} (r : VR c M P h d v) (hl : ks.length = vs.length) (hv : VRs c M P h ds vs) :
    ∃ vs', stored (ks.zip vs) x v = (putD x d ks ds).1.zip vs' ∧ (putD x d ks ds).1.length = vs'.length ∧ VRs c M P h (putD x d ks ds).2 vs' := by
  unfold stored putD
  by_cases hx : x ∈ ks
  · rw [if_pos ((zip_any x hl).mpr hx), if_pos hx]
    exact ⟨setV x v ks vs, zip_set x v hl, setV_len x v hl, setV_rel r hl hv⟩
  · rw [if_neg (fun z => hx ((zip_any x hl).mp z)), if_neg hx]
    refine ⟨vs ++ [v], ?_, by simp [hl], hv.append (VRs.cons r VRs.nil)⟩
    rw [List.zip_append hl]; rfl
theorem go_stored {i : Nat} {a : Addr} {x : Str} {v : Value} {ks : List Str} {vs : List Value} {ds : List DV} {tk : Tok} (S : St c P M σ s.heap) (hi : M[i]? = some a) (hl : ks.length = vs.length) (hv : VRs c M P s.heap ds vs) (r : VR c M P s.heap d v)
    (hD : h'.DictOf c.kd a (stored (ks.zip vs) x v)) (hs : ∀ b o, b ≠ a → s.heap.get? b = some o → h'.get? b = some o) :
    Go c [] P M s M (σ.set i (.dict (putD x d ks ds).1 (putD x d ks ds).2)) { s with heap := h', toks := tk } := by
  refine Go.set S hi hs fun mo => ?_
  refine exP3 (zip_stored (x := x) r hl hv) ?_; rintro vs' e1 e2 e3
  rw [e1] at hD
  exact ⟨vs', hD, e2, e3.mono mo⟩
theorem set_attr {ats : List Str} (K : Kok c ats) {x : Str} (hx : x ∈ ats) {C : Addr} {i : Nat} {o v : Value} {ks : List Str} {l : List DV} {Q : Unit → Shared → Prop} (S : St c P M σ s.heap) (r : VR c M P s.heap (.inst C i) o)
    (e : dictOf' σ (.loc i) = some (ks, l)) (hz : ks.length ≤ 100) (hv : VR c M P s.heap d v)
    (q : ∀ s', Go c [] P M s M (σ.set i (.dict (putD x d ks l).1 (putD x d ks l).2)) s' → Q () s') : wpAny c.M A (setAttr o x v) Q (fun _ _ => False) s := by
  obtain ⟨xa, dx, rfl, _, _, hgx, hi, hC⟩ := r
  have hloc : VR c M P s.heap (.loc i) (.ref dx) := ⟨dx, rfl, hi⟩
  refine exQ5 (dict_of S e hloc) ?_; rintro a' vs ea hs' hD hl1 hvs
  first | exact deadP ea | (refine spP ea ?_; clear ea; rintro rfl rfl) | (refine smP ea ?_; clear ea; rintro rfl) | cases ea
  obtain ⟨od, ho, hlook, es, n, rfl, hk, hp, hn⟩ := look_dict hD
  have hok := K.at_ C hC x hx
  unfold attrOk at hok
  simp only [Bool.and_eq_true, beq_iff_eq] at hok
  refine andP2 hok ?_; clear hok; rintro ⟨⟨⟨⟨k1, k2⟩, k3⟩, k4⟩, k5⟩ k6
  have X : c.K.In s.heap := K.kin.keeps S.base
  refine set_plain (prog := c.prog) (w := c.w) X (ox := instObj C dx) (od := some _) ⟨hgx, rfl, rfl, ho⟩ k4 ?_
  refine osa_open (s := { s with toks := s.toks + 1 }) X (od := some _) ⟨hgx, rfl, rfl, ho⟩ k5 k6 fun b => ?_
  refine exP2 (any_some (show (clsIn c.K C).any (·.hasDict) = true from k2)) ?_; rintro cd hc hd'
  refine wpAny_bind (wpAny_pure (wpAny_bind (wpAny_bind (wpAny_loadPart hgx (wpAny_bind (Looks.here (s := { s with toks := s.toks + 1 }) (looks_clsIn X hc) ?_))))))
  rw [hd']
  refine wpAny_pure (a := some dx) (wpAny_bind (wpAny_pure (wpAny_bind ?_)))
  unfold nsSet
  refine wpAny_bind (wpAny_bind (wpAny_askSetting (wpAny_pure (wpAny_bind (wpAny_mkText (wpAny_bind (wpAny_loadPart ho ?_)))))))
  dsimp only
  have cc : (!es.any (·.key.isStr x) && es.any (·.refKey)) = false := by
    have : es.any (·.refKey) = false := by
      rw [Array.any_eq_false]
      intro j hj
      refine exP1 (hk es[j] (Array.getElem_mem hj)) ?_; rintro k hk'
      refine exP1 (Value.isStrOf_shape hk'.1) ?_; rintro t ht
      simp [DictEntry.refKey, ht]
    rw [this, Bool.and_false]
  rw [aRefKeyMayBeTheName_at, cc]
  refine wpAny_updatePart ho ?_
  have hkey : c.kd.is x (.str x (s.toks + 1)) = true := strKind_is _ _ _ _
  have hes : es.size ≤ 100 := by
    have e1 := hp.length
    have e2 : es.toList.length = es.size := by simp
    rw [List.length_zip] at e1
    lia
  have isx : (fun e : DictEntry => e.key.isStr x) = fun e => c.kd.is x e.key := by funext e; exact isStr_eq _ _
  have new : ∃ es' n', (s.heap.update dx (Obj.putName x (PyData.keyHash c.w.params x) (.str x (s.toks + 1)) v)).get? dx = some ⟨.type "dict", none, .dict es' n', #[]⟩ ∧ es'.size ≤ 101 ∧
      (s.heap.update dx (Obj.putName x (PyData.keyHash c.w.params x) (.str x (s.toks + 1)) v)).DictOf c.kd dx (stored (ks.zip vs) x v) := by
    have hidx : (es.findIdx? fun e => c.kd.is x e.key) = (ks.zip vs).findIdx? fun kv => decide (kv.1 = x) := by
      rw [← hp.findIdx x]; obtain ⟨l⟩ := es; simp
    cases hj : es.findIdx? fun e => c.kd.is x e.key with
    | some j =>
      have ep : Obj.putName x (PyData.keyHash c.w.params x) (.str x (s.toks + 1)) v ⟨.type "dict", none, .dict es n, #[]⟩ = ⟨.type "dict", none, .dict (es.modify j fun e => { e with val := v }) n, #[]⟩ := by
        simp only [Obj.putName_eq, Obj.putNameByArray, isx, hj]
      have g := Heap.get?_update_self (Obj.putName x (PyData.keyHash c.w.params x) (.str x (s.toks + 1)) v) ho (by rw [ep]; rfl)
      rw [ep] at g
      refine ⟨_, _, g, by simp; lia, _, _, _, g, ⟨rfl, rfl, rfl⟩, rfl, hk.modify _ _, ?_, ?_⟩
      · rw [stored, if_pos (any_of_findIdx_some (hidx ▸ hj))]
        have hl : (es.toList.findIdx? fun e => c.kd.is x e.key) = some j := by rw [← hj]; obtain ⟨l⟩ := es; simp
        have := hp.modify hn hl v
        obtain ⟨l⟩ := es
        simpa using this
      · rw [stored, if_pos (any_of_findIdx_some (hidx ▸ hj)), keys_map_store]; exact hn
    | none =>
      have ep : Obj.putName x (PyData.keyHash c.w.params x) (.str x (s.toks + 1)) v ⟨.type "dict", none, .dict es n, #[]⟩ = ⟨.type "dict", none, .dict (es.push ⟨PyData.keyHash c.w.params x, .str x (s.toks + 1), v⟩) (n + 1), #[]⟩ := by
        simp only [Obj.putName_eq, Obj.putNameByArray, isx, hj]
      have g := Heap.get?_update_self (Obj.putName x (PyData.keyHash c.w.params x) (.str x (s.toks + 1)) v) ho (by rw [ep]; rfl)
      rw [ep] at g
      have hnot : x ∉ (ks.zip vs).map (·.1) := not_mem_of_findIdx_none (hidx ▸ hj)
      have hany : ¬ ((ks.zip vs).any fun kv => decide (kv.1 = x)) = true := by
        rw [List.any_eq_true]; rintro ⟨kv, hkv, he⟩
        exact hnot (List.mem_map.mpr ⟨kv, hkv, of_decide_eq_true he⟩)
      refine ⟨_, _, g, by rw [Array.size_push]; lia, _, _, _, g, ⟨rfl, rfl, rfl⟩, rfl, hk.push hkey _, ?_, ?_⟩
      · rw [stored, if_neg hany]
        have := hp.append hkey (PyData.keyHash c.w.params x) v
        obtain ⟨l⟩ := es
        simpa using this
      · rw [stored, if_neg hany, List.map_append, List.nodup_append]
        refine ⟨hn, by simp, ?_⟩
        intro a ha b hb
        simp only [List.map_cons, List.map_nil, List.mem_singleton] at hb
        subst hb
        exact fun e => hnot (e ▸ ha)
  refine exQ3 new ?_; clear new; rintro es' n' g' hz' D'
  refine wpAny_bind (wpAny_lookBehind g' (pastItsLine_dict (by rw [sizeLine_eq]; lia)) (wpAny_pure (q _ ?_)))
  exact go_stored S hi hl1 hvs hv D' fun b ob hne h0 => (Heap.get?_update_other _ _ (Ne.symm hne)).trans h0
theorem list_set {a : Addr} {vs : Array Value} {n : Nat} {k : Int} {t : Tok} {v : Value} {Q : Unit → Shared → Prop} {E : Value → Shared → Prop} (g : s.heap.get? a = some (lstO vs n)) (h0 : 0 ≤ k) (hb : k < big) (hn : k < vs.size)
    (q : ∀ n', (s.heap.update a (Obj.mapSeq (·.setIfInBounds k.toNat v))).get? a = some (lstO (vs.setIfInBounds k.toNat v) n') → Q () { s with heap := s.heap.update a (Obj.mapSeq (·.setIfInBounds k.toNat v)) }) : wpAny c.M A (setItem (.ref a) (.int k t) v) Q E s := by
  have hl := isList g
  have hbb : (big : Int) = 100000 := rfl
  unfold setItem
  refine wpAny_holding (wpAny_bind (wpAny_sequenceKey hl.typeIs (by decide) ?_))
  refine wpAny_bind (wpAny_callSpecial?_slot (name := Str.ofString "__setitem__") hl.typeIs slot_list_setitem
    (wpAny_call_entry slot_list_setitem hl.typeIs entry_list_setitem ?_ (args_list_setitem _ _ _)))
  show wpAny _ _ (Builtin.List.listSubscript? (.int k t) >>= _) _ _ s
  refine wpAny_bind (wpAny_listSubscript_int (fitsIndex_of h0 (by lia)) ?_)
  refine exP1 (Int.eq_ofNat_of_zero_le h0) ?_; rintro j rfl
  have hj : j < vs.size := by lia
  show wpAny _ _ ((seqItemAt a j >>= fun r => pure (r.map (j, ·))) >>= _) _ _ s
  refine wpAny_bind (wpAny_bind (wpAny_seqItemAt g rfl (wpAny_pure ?_)))
  rw [Array.getElem?_eq_getElem hj]
  show wpAny _ _ (setSeqItemAt a j v >>= _) _ _ s
  have g' := q _ (Heap.get?_update_self (Obj.mapSeq (·.setIfInBounds j v)) g rfl)
  refine wpAny_bind (wpAny_setSeqItemAt g rfl ?_)
  exact wpAny_pure ⟨.none, rfl, wpAny_pure g'⟩
theorem VRs.set {v : Value} (r : VR c M P h d v) : ∀ {l : List DV} {vs : List Value} (k : Nat), VRs c M P h l vs → VRs c M P h (l.set k d) (vs.set k v)
  | [], _, k, x => by unfold VRs at x; subst x; exact VRs.nil
  | e :: l, _, 0, x => by
    unfold VRs at x
    refine exQ3 x ?_; clear x; rintro u w rfl _ x3
    exact VRs.cons r x3
  | e :: l, _, k + 1, x => by
    unfold VRs at x
    refine exQ3 x ?_; clear x; rintro u w rfl x2 x3
    exact VRs.cons x2 (VRs.set r k x3)
end
end
section
section
variable {c : Cx} {A : Around} {P P' M M₁ M₂ O : List Addr} {σ σ' σ₁ σ₂ : Sg} {h h' : Heap} {s s₁ s₂ : Shared} {env : Env} {T : Tb} {ρ ρ' : Rho} {d d₁ d₂ : DV} {H : Hd} {n m : Nat}
noncomputable def Tx (c : Cx) (O P M : List Addr) (s : Shared) (env : Env) (T : Tb) (ρ' : Rho) (σ' : Sg) (s' : Shared) : Prop := ∃ M', Go c O P M s M' σ' s' ∧ Frm c env T P M' s'.heap ρ'
theorem Tx.pre (g : Go c O P M s M₁ σ₁ s₁) (x : Tx c O P M₁ s₁ env T ρ' σ' s₂) : Tx c O P M s env T ρ' σ' s₂ := let ⟨M', a, b⟩ := x; ⟨M', g.trans a, b⟩
theorem t_name {x : Str} {pos : Pos} {i : Nat} {v : Value} (E : EnvOk env T P) (hO : ∀ a, Own env a → a ∈ O) (hP : ∀ a ∈ O, a ∈ P) (S : St c P M σ s.heap) (F : Frm c env T P M s.heap ρ) (r : VR c M P s.heap d v)
    (hi : T.var x = some i) (e : asgT H n (.nm i) d ρ σ = some (ρ', σ')) : W c.M A (assign (.Name x pos) env v) (fun _ s' => Tx c O P M s env T ρ' σ' s') s := by
  refine ifP e ?_; clear e; intro hl e
  cases e
  exact .of (a_name E S F hi hl (.inr hO) hP r fun s' g _ F' => ⟨M, g, F'⟩)
theorem t_bind {x : Str} {i : Nat} {v : Value} (E : EnvOk env T P) (hO : ∀ a, Own env a → a ∈ O) (hP : ∀ a ∈ O, a ∈ P) (S : St c P M σ s.heap) (F : Frm c env T P M s.heap ρ) (r : VR c M P s.heap d v)
    (hi : T.var x = some i) (e : asgT H n (.nm i) d ρ σ = some (ρ', σ')) : W c.M A (bindName env x v) (fun _ s' => Tx c O P M s env T ρ' σ' s') s := by
  refine ifP e ?_; clear e; intro hl e
  cases e
  exact .of (bind_var E S F hi hl (.inr hO) hP r fun s' g _ F' => ⟨M, g, F'⟩)
theorem VR.loc_inst {C : Addr} {i : Nat} {x : Value} (r : VR c M P h (.inst C i) x) : C ∈ c.cls := by
  refine byG fun GG kk => ?_
  obtain ⟨_, _, _, _, _, _, _, hC⟩ := r
  refine kk ?_
  clear kk GG
  exact hC
theorem s_slice (ih : ES c A env T H n m) (E : EnvOk env T P) {lo hi : Expr} {p : Pos} (e1 : ev H n (tr m T lo) ρ σ = some (d₁, σ₁)) (e2 : ev H n (tr m T hi) ρ σ₁ = some (d₂, σ₂)) (S : St c P M σ s.heap) (F : Frm c env T P M s.heap ρ) :
    W c.M A (eval (.Slice (some lo) (some hi) none p) env) (fun v s' => ∃ M' a l u, v = .ref a ∧ s'.heap.IsSliceOf a l u .none ∧ VR c M' P s'.heap d₁ l ∧ VR c M' P s'.heap d₂ u ∧ Go c [] P M s M' σ₂ s') s := by
  show W _ _ (eval lo env >>= fun l => holding [l] (eval hi env) >>= fun u => holding [l, u] (pure .none) >>= fun t => newFields "slice" [l, u, t]) _ _
  refine .bind ((ih lo ρ σ _ _ e1 P M s E S F).mono fun l s₁ h₁ => ?_)
  refine exP2 h₁.to ?_; rintro M₁ g₁ r₁
  refine .bind (.holding ((ih hi ρ σ₁ _ _ e2 P M₁ s₁ E g₁.st (F.ext E S g₁.ex)).mono fun u s₂ h₂ => ?_))
  refine exP2 h₂.to ?_; rintro M₂ g₂ r₂
  refine .bind (.holding (.pure (.of (wpAny_newObj_type ?_))))
  have hsl := Heap.IsSliceOf.new s₂.heap l u .none
  have kp : Keep s₂.heap (s₂.heap.push { cls := .type "slice", data := .fields #[l, u, .none] }) := Keep.push _
  exact ⟨M₂, _, l, u, rfl, hsl, (r₁.mono g₂.ex.mono0).mono kp.mono, r₂.mono kp.mono, (g₁.trans g₂).trans (Go.keep (tk := s₂.toks) g₂.st kp)⟩
theorem size_sub {x a b : Nat} (h : (x : Int) = b - a) : x = b - a := by lia
theorem asg_at (ih : ES c A env T H n m) (E : EnvOk env T P) (K : Kok c T.ats) (hP : ∀ a ∈ O, a ∈ P) {o : Expr} {a : Str} {pos : Pos} (hx : a ∈ T.ats) {v : Value} (e : asgT H n (.at (tr m T o) a) d ρ σ = some (ρ', σ'))
    (S : St c P M σ s.heap) (F : Frm c env T P M s.heap ρ) (r : VR c M P s.heap d v) : W c.M A (assign (.Attribute o a pos) env v) (fun _ s' => Tx c O P M s env T ρ' σ' s') s := by
  refine bndP e ?_; clear e; intro d₁ σ₁ e1 e
  refine bnd1 e ?_; clear e; rintro ⟨C, i⟩ hc e
  cases instD_eq hc; clear hc
  refine bndP e ?_; clear e; intro ks l e2 e
  refine ifP e ?_; clear e; intro hz e
  refine spP e ?_; clear e; rintro rfl rfl
  show W _ _ (holding [v] (eval o env) >>= fun ov => standAt pos.atName >>= fun _ => holding [v, ov] (setAttr ov a v) >>= fun _ => release [v, ov] []) _ _
  refine ih.goH e1 E S F fun ov s₁ M₁ g₁ r₁ => ?_
  refine .bind (.standAt (.bind (.holding (.of (set_attr K hx g₁.st r₁ e2 hz (r.mono g₁.ex.mono0) fun s' g' => .of (wpAny_release ?_))))))
  exact ⟨M₁, (g₁.trans g').own hP, F.ext E S (g₁.trans g').ex⟩
theorem asg_sl (ih : ES c A env T H n m) (E : EnvOk env T P) (hP : ∀ a ∈ O, a ∈ P) {o lo hi : Expr} {p pos : Pos} {v : Value} (e : asgT H n (.sl (tr m T o) (tr m T lo) (tr m T hi)) d ρ σ = some (ρ', σ'))
    (S : St c P M σ s.heap) (F : Frm c env T P M s.heap ρ) (r : VR c M P s.heap d v) : W c.M A (assign (.Subscript o (.Slice (some lo) (some hi) none p) pos) env v) (fun _ s' => Tx c O P M s env T ρ' σ' s') s := by
  refine bndP e ?_; clear e; intro d₁ σ₁ e1 e
  refine bndP e ?_; clear e; intro d₂ σ₂ e2 e
  refine bndP e ?_; clear e; intro d₃ σ₃ e3 e
  refine bnd1 e ?_; clear e; intro i h1 e
  refine bnd1 e ?_; clear e; intro a h2 e
  refine bnd1 e ?_; clear e; intro b h3 e
  refine bnd1 e ?_; clear e; intro x h4 e
  refine bnd1 e ?_; clear e; intro y hy e
  refine ifP e ?_; clear e; rintro ⟨h0, hab, hby, hxs, hys⟩ e
  cases locD_eq h1; cases intD_eq h2; cases intD_eq h3; cases bytD_eq h4
  clear h1 h2 h3 h4
  refine spP e ?_; clear e; rintro rfl rfl
  replace hy := baAt_eq hy
  obtain ⟨t, rfl⟩ := r
  show W _ _ (holding [.bytes x t] (eval o env) >>= fun ov => holding [.bytes x t, ov] (eval (.Slice (some lo) (some hi) none p) env) >>= fun iv => standAt pos >>= fun _ => holding [.bytes x t, ov, iv] (setItem ov iv (.bytes x t)) >>= fun _ => release [iv, .bytes x t, ov] []) _ _
  refine ih.goH e1 E S F fun ov s₁ M₁ g₁ r₁ => ?_
  refine .bind (.holding ((s_slice ih E e2 e3 g₁.st (F.ext E S g₁.ex)).mono fun iv s₂ h₂ => ?_))
  refine byG fun GG kk => ?_
  obtain ⟨M₂, sl, l, u, rfl, hsl, ⟨t1, rfl⟩, ⟨t2, rfl⟩, g₂⟩ := h₂
  obtain ⟨ax, rfl, hi'⟩ := r₁.mono g₂.ex.mono0
  refine kk ?_
  clear kk GG
  have hg : s₂.heap.get? ax = some (baO y) := g₂.st.get hi' hy
  obtain ⟨na, rfl⟩ := Int.eq_ofNat_of_zero_le h0
  obtain ⟨nb, rfl⟩ := Int.eq_ofNat_of_zero_le (Int.le_trans h0 hab)
  refine .bind (.standAt (.bind (.holding ((ba_setslice hg hsl (Int.ofNat_le.mp hab) (Int.ofNat_le.mp hby) (size_sub hxs) hys fun h' f1 f2 => ?_)))))
  have gs := Go.set (tk := s₂.toks) g₂.st hi' f2 (o := .ba (y.extract 0 na ++ x ++ y.extract nb y.size)) fun _ => f1
  have gg := (g₁.trans g₂).trans gs
  exact .of (wpAny_release ⟨M₂, gg.own hP, F.ext E S gg.ex⟩)
theorem set_key (S : St c P M₂ σ₂ s₂.heap) {j : Nat} {x : Str} {ks : List Str} {l : List DV} {ov iv v : Value} (r₁ : VR c M₂ P s₂.heap (.loc j) ov) (r₂ : VR c M₂ P s₂.heap (.str x) iv) (rv : VR c M₂ P s₂.heap d v) (e3 : dictOf' σ₂ (.loc j) = some (ks, l)) (hz : ks.length ≤ 100)
    {Q : Unit → Shared → Prop} (q : ∀ s', Go c [] P M₂ s₂ M₂ (σ₂.set j (.dict (putD x d ks l).1 (putD x d ks l).2)) s' → Q () s') : W c.M A (setItem ov iv v) Q s₂ := by
  refine byG fun GG kk => ?_
  obtain ⟨tx, rfl⟩ := r₂
  obtain ⟨a', vs, rfl, hs', hD, hl1, hvs⟩ := dict_of S e3 r₁
  obtain ⟨ax, ea, hi'⟩ := r₁
  refine kk ?_
  clear kk GG
  cases ea
  exact .of (wpAny_setItem_pairs (is_str x tx) hD (fun h' D' sb => q _ (go_stored (tk := s₂.toks + 1) S hi' hl1 hvs rv D' fun b ob hne q => (sb.2 b hne).trans q)) (by rw [List.length_zip, sizeLine_eq]; lia))
theorem set_idx (S : St c P M₂ σ₂ s₂.heap) {j : Nat} {q : Int} {l : List DV} {ov iv v : Value} (r₁ : VR c M₂ P s₂.heap (.loc j) ov) (r₂ : VR c M₂ P s₂.heap (.int q) iv) (rv : VR c M₂ P s₂.heap d v) (hl : σ₂[j]? = some (.list l)) (hc : 0 ≤ q ∧ q < big ∧ q < l.length)
    {Q : Unit → Shared → Prop} (qq : ∀ s', Go c [] P M₂ s₂ M₂ (σ₂.set j (.list (l.set q.toNat d))) s' → Q () s') : W c.M A (setItem ov iv v) Q s₂ := by
  refine byG fun GG kk => ?_
  obtain ⟨tq, rfl⟩ := r₂
  obtain ⟨ax, rfl, hi'⟩ := r₁
  obtain ⟨vs, nk, hg, hvs⟩ := S.get hi' hl
  refine kk ?_
  clear kk GG
  have hlen : l.length = vs.size := hvs.length
  refine .of (list_set hg hc.1 hc.2.1 (hlen ▸ hc.2.2) fun n' f1 => ?_)
  exact qq _ (Go.set (tk := s₂.toks) (o := .list (l.set q.toNat d)) S hi' (fun b ob hne q => (Heap.get?_update_other _ _ (Ne.symm hne)).trans q) (h' := s₂.heap.update ax (Obj.mapSeq (·.setIfInBounds q.toNat v))) fun mo => ⟨_, _, f1, by rw [Array.toList_setIfInBounds]; exact (hvs.mono mo).set (rv.mono mo) _⟩)
theorem asg_it (ih : ES c A env T H n m) (E : EnvOk env T P) (hP : ∀ a ∈ O, a ∈ P) {o i : Expr} {pos : Pos} {v : Value} (e : asgT H n (.it (tr m T o) (tr m T i)) d ρ σ = some (ρ', σ'))
    (S : St c P M σ s.heap) (F : Frm c env T P M s.heap ρ) (r : VR c M P s.heap d v) : W c.M A (assign (.Subscript o i pos) env v) (fun _ s' => Tx c O P M s env T ρ' σ' s') s := by
  refine bndP e ?_; clear e; intro d₁ σ₁ e1 e
  refine bndP e ?_; clear e; intro d₂ σ₂ e2 e
  refine bnd1 e ?_; clear e; intro j h1 e
  cases locD_eq h1; clear h1
  have hrel : ∀ {l : List Value} {Q : Unit → Shared → Prop} {s : Shared}, Q () s → W c.M A (release l []) Q s := fun q => .of (wpAny_release q)
  refine ih.goH (vs := [v]) (e := o) e1 E S F fun ov s₁ M₁ g₁ r₁ => ?_
  refine ih.goH (vs := [v, ov]) (e := i) e2 E g₁.st (F.ext E S g₁.ex) fun iv s₂ M₂ g₂ r₂ => ?_
  have g12 := g₁.trans g₂
  have rv := r.mono g12.ex.mono0
  have r₁' := r₁.mono g₂.ex.mono0
  clear r r₁ e1 e2
  refine elimO e ?_ ?_ <;> clear e
  · intro _ e
    refine bnd1 e ?_; clear e; intro q h2 e
    refine bnd1 e ?_; clear e; intro l hl e
    refine ifP e ?_; clear e; intro hc e
    cases intD_eq h2
    refine spP e ?_; clear e; rintro rfl rfl
    exact .bind (.standAt (.bind (.holding (set_idx g₂.st r₁' r₂ rv (listAt_eq hl) hc fun s' gs => hrel ⟨M₂, (g12.trans gs).own hP, F.ext E S (g12.trans gs).ex⟩))))
  · intro x h2 e
    refine bndP e ?_; clear e; intro ks l e3 e
    refine ifP e ?_; clear e; intro hz e
    cases strD_eq h2
    refine spP e ?_; clear e; rintro rfl rfl
    exact .bind (.standAt (.bind (.holding (set_key g₂.st r₁' r₂ rv e3 hz fun s' gs => hrel ⟨M₂, (g12.trans gs).own hP, F.ext E S (g12.trans gs).ex⟩))))
theorem s_asgT (ih : ES c A env T H n m) (E : EnvOk env T P) {k : Nat} (R : Room A k) (K : Kok c T.ats) (hO : ∀ a, Own env a → a ∈ O) (hP : ∀ a ∈ O, a ∈ P) {t : Expr} {it : IT} (ht : trT m T t = some it) {v : Value} (e : asgT H n it d ρ σ = some (ρ', σ'))
    (S : St c P M σ s.heap) (F : Frm c env T P M s.heap ρ) (r : VR c M P s.heap d v) : W c.M A (assign t env v) (fun _ s' => Tx c O P M s env T ρ' σ' s') s := by
  cases t with
  | Name x pos =>
    refine map1 ht ?_; clear ht; rintro i hi rfl
    exact t_name E hO hP S F r hi e
  | Attribute o a pos =>
    refine ifP ht ?_; clear ht; intro hx ht
    cases ht
    exact asg_at ih E K hP hx e S F r
  | Subscript o i pos =>
    refine elimO ht ?_ ?_ <;> clear ht
    · intro hs ht
      cases ht
      exact asg_it ih E hP e S F r
    · intro q hq ht
      refine bnd1 ht ?_; clear ht; intro lo h1 ht
      refine bnd1 ht ?_; clear ht; intro hi h2 ht
      refine ifP ht ?_; clear ht; intro h3 ht
      cases ht
      obtain ⟨p, rfl⟩ := slice_of hq
      rw [h1, h2, Option.isNone_iff_eq_none.mp h3]
      exact asg_sl ih E hP e S F r
  | _ => exact deadP ht
theorem s_asgL (ih : ES c A env T H n m) (E : EnvOk env T P) {k : Nat} (R : Room A k) (K : Kok c T.ats) (hO : ∀ a, Own env a → a ∈ O) (hP : ∀ a ∈ O, a ∈ P) : ∀ (ts : List Expr) (its : List IT) (ds : List DV) (vs : List Value) (ρ : Rho) (σ : Sg) (M : List Addr) (s : Shared),
    trTs m T ts = some its → asgL H n its ds ρ σ = some (ρ', σ') → St c P M σ s.heap → Frm c env T P M s.heap ρ → VRs c M P s.heap ds vs → ((assignEach ts env).findIdx? (·.1) = none ∧ (assignEach ts env).length = ts.length) ∧ ts.length = vs.length ∧ W c.M A (assignInOrder ((assignEach ts env).map (·.2)) vs) (fun _ s' => Tx c O P M s env T ρ' σ' s') s
  | [], its, ds, vs, ρ, σ, M, s, h1, h2, S, F, r => by
    cases h1
    cases ds with
    | nil =>
      cases h2
      unfold VRs at r
      subst r
      exact ⟨⟨rfl, rfl⟩, rfl, .pure ⟨M, Go.self S, F⟩⟩
    | cons _ _ => cases h2
  | t :: ts, its, ds, vs, ρ, σ, M, s, h1, h2, S, F, r => by
    refine bnd1 h1 ?_; clear h1; rintro it a1 h1
    refine map1 h1 ?_; clear h1; rintro its' a2 rfl
    cases ds with
    | nil => cases h2
    | cons d ds =>
      refine bndP h2 ?_; clear h2; rintro ρ₁ σ₁ b1 b2
      unfold VRs at r
      refine byG fun GG kk => ?_
      refine exQ3 r ?_; clear r; rintro v vs' rfl r1 r2
      refine kk ?_
      clear kk GG
      have first := s_asgT (A := A) (s := s) ih E R K hO hP a1 b1 S F r1
      have hE : assignEach (t :: ts) env = (false, assign t env) :: assignEach ts env := by
        cases t <;> first | rfl | exact deadP a1
      have rest : ∀ M₁ s₁, Go c O P M s M₁ σ₁ s₁ → Frm c env T P M₁ s₁.heap ρ₁ → _ := fun M₁ s₁ g F₁ => s_asgL ih E R K hO hP ts its' ds vs' ρ₁ σ₁ M₁ s₁ a2 b2 g.st F₁ (r2.mono (g.ex.mono hP))
      have len : ∀ (ts : List Expr) (its : List IT) (ds : List DV) (ρ : Rho) (σ : Sg) (q : Rho × Sg), trTs m T ts = some its → asgL H n its ds ρ σ = some q → ((assignEach ts env).findIdx? (·.1) = none ∧ (assignEach ts env).length = ts.length) ∧ ts.length = ds.length := by
        intro ts
        induction ts with
        | nil =>
          intro its ds ρ σ q h1 h2
          first | exact deadP h1 | (refine spP h1 ?_; clear h1; rintro rfl rfl) | (refine smP h1 ?_; clear h1; rintro rfl) | cases h1
          cases ds with
          | nil => exact ⟨⟨rfl, rfl⟩, rfl⟩
          | cons _ _ => cases h2
        | cons t ts hi =>
          intro its ds ρ σ q h1 h2
          refine bnd1 h1 ?_; clear h1; rintro it a1 h1
          refine map1 h1 ?_; clear h1; rintro its' a2 rfl
          cases ds with
          | nil => cases h2
          | cons d ds =>
            refine bndP h2 ?_; clear h2; rintro ρ₁ σ₁ b1 b2
            refine andP2 (hi _ _ _ _ _ a2 b2) ?_; rintro ⟨c1, c2⟩ c3
            have hE : assignEach (t :: ts) env = (false, assign t env) :: assignEach ts env := by
              cases t <;> first | rfl | exact deadP a1
            rw [hE]
            refine ⟨⟨?_, by simp [c2]⟩, by simp [c3]⟩
            rw [List.findIdx?_cons, c1]; rfl
      refine andP2 (len _ _ _ _ _ _ a2 b2) ?_; rintro ⟨c1, c2⟩ c3
      rw [hE]
      refine ⟨⟨?_, by simp [c2]⟩, ?_, ?_⟩
      · rw [List.findIdx?_cons, c1]; rfl
      · simp [c3, r2.length]
      · show W _ _ (holding vs' (assign t env v) >>= fun _ => assignInOrder ((assignEach ts env).map (·.2)) vs') _ _
        refine .bind (.holding (first.mono fun _ s₁ h₁ => ?_))
        refine exP2 h₁ ?_; clear h₁; rintro M₁ g F₁
        exact (rest M₁ s₁ g F₁).2.2.mono fun _ s₂ h₂ => .pre g h₂
theorem s_binds (E : EnvOk env T P) (hO : ∀ a, Own env a → a ∈ O) (hP : ∀ a ∈ O, a ∈ P) : ∀ (xs : List Str) (its : List IT) (ds : List DV) (vs : List Value) (ρ : Rho) (σ : Sg) (M : List Addr) (s : Shared),
    nmsT T xs = some its → asgL H n its ds ρ σ = some (ρ', σ') → St c P M σ s.heap → Frm c env T P M s.heap ρ → VRs c M P s.heap ds vs → W c.M A (assignInOrder (xs.map fun x => bindName env x) vs) (fun _ s' => Tx c O P M s env T ρ' σ' s') s
  | [], its, ds, vs, ρ, σ, M, s, h1, h2, S, F, r => by
    first | exact deadP h1 | (refine spP h1 ?_; clear h1; rintro rfl rfl) | (refine smP h1 ?_; clear h1; rintro rfl) | cases h1
    cases ds with
    | nil =>
      first | exact deadP h2 | (refine spP h2 ?_; clear h2; rintro rfl rfl) | (refine smP h2 ?_; clear h2; rintro rfl) | cases h2
      exact .pure ⟨M, Go.self S, F⟩
    | cons _ _ => cases h2
  | x :: xs, its, ds, vs, ρ, σ, M, s, h1, h2, S, F, r => by
    refine bnd1 h1 ?_; clear h1; rintro i a1 h1
    refine map1 h1 ?_; clear h1; rintro its' a2 rfl
    cases ds with
    | nil => cases h2
    | cons d ds =>
      refine bndP h2 ?_; clear h2; rintro ρ₁ σ₁ b1 b2
      unfold VRs at r
      refine byG fun GG kk => ?_
      refine exQ3 r ?_; clear r; rintro v vs' rfl r1 r2
      refine kk ?_
      clear kk GG
      show W _ _ (holding vs' (bindName env x v) >>= fun _ => assignInOrder (xs.map fun x => bindName env x) vs') _ _
      refine .bind (.holding ((t_bind (A := A) (s := s) E hO hP S F r1 a1 b1).mono fun _ s₁ h₁ => ?_))
      refine exP2 h₁ ?_; clear h₁; rintro M₁ g F₁
      exact (s_binds E hO hP xs its' ds vs' ρ₁ σ₁ M₁ s₁ a2 b2 g.st F₁ (r2.mono (g.ex.mono hP))).mono fun _ s₂ h₂ => .pre g h₂
end
end
section
section
variable {c : Cx} {A : Around} {P P' M M₁ M₂ O : List Addr} {σ σ' σ₁ σ₂ : Sg} {h h' : Heap} {s s₁ s₂ : Shared} {env : Env} {T : Tb} {ρ ρ' : Rho} {d d₁ d₂ : DV} {H : Hd} {n m k : Nat}
noncomputable abbrev XS (c : Cx) (A : Around) (env : Env) (T : Tb) (O : List Addr) (H : Hd) (n m : Nat) : Prop :=
  ∀ (st : Stmt) (ρ : Rho) (σ : Sg) (r : Fl × Rho × Sg), ex H n (trS m T st) ρ σ = some r → ∀ (P M : List Addr) (s : Shared), EnvOk env T P → (∀ a ∈ O, a ∈ P) → St c P M σ s.heap → Frm c env T P M s.heap ρ → W c.M A (exec st env) (Sx c O P M s env T r) s
theorem block_of (X : XS c A env T O H n m) : ∀ body : List Stmt, BS c A env T O body (exL (ex H n) (body.map (trS m T)))
  | [] => by
    intro ρ σ r e P M s E hP S F
    first | exact deadP e | (refine spP e ?_; clear e; rintro rfl rfl) | (refine smP e ?_; clear e; rintro rfl) | cases e
    exact .pure ⟨M, Go.self S, F, trivial⟩
  | st :: rest => by
    intro ρ σ r e P M s E hP S F
    refine byG fun GG kk => ?_
    refine exP2 (Option.bind_eq_some_iff.mp (show (ex H n (trS m T st) ρ σ).bind _ = some r from e)) ?_; rintro ⟨fl, ρ₁, σ₁⟩ e1 e2
    refine kk ?_
    clear kk GG
    rw [arm_execs_cons]
    refine .bind ((X st ρ σ _ e1 P M s E hP S F).mono fun f s₁ h₁ => ?_)
    refine byG fun GG kk => ?_
    refine exP3 h₁ ?_; clear h₁; rintro M₁ g₁ F₁ fr
    refine kk ?_
    clear kk GG
    cases fl with
    | next =>
      cases f with
      | next => exact (block_of X rest ρ₁ σ₁ r e2 P M₁ s₁ E hP g₁.st F₁).mono fun _ s₂ x => x.pre g₁
      | _ => exact fr.elim
    | cont =>
      first | exact deadP e2 | (refine spP e2 ?_; clear e2; rintro rfl rfl) | (refine smP e2 ?_; clear e2; rintro rfl) | cases e2
      cases f with
      | cont => exact .pure ⟨M₁, g₁, F₁, fr⟩
      | _ => exact fr.elim
    | ret d =>
      first | exact deadP e2 | (refine spP e2 ?_; clear e2; rintro rfl rfl) | (refine smP e2 ?_; clear e2; rintro rfl) | cases e2
      cases f with
      | ret v => exact .pure ⟨M₁, g₁, F₁, fr⟩
      | _ => exact fr.elim
theorem kf_inter (E : EnvOk env T P) : interactive env = false := by unfold interactive; rw [E.kf]; rfl
theorem kf_block (E : EnvOk env T P) : env.blockKind = .function := by unfold Env.blockKind; rw [E.kf]; rfl
theorem swaps_none {v : Expr} (hv : isComp v = false) {t : Option Expr} {l : Nat} : swapsWith v t l env = pure false := by
  unfold swapsWith
  cases v <;> first | rfl | cases hv
theorem x_expr (ie : ES c A env T H n m) (E : EnvOk env T P) (hP : ∀ a ∈ O, a ∈ P) {v : Expr} {pos : Pos} {r : Fl × Rho × Sg} (hv : isComp v = false) (e : ex H (n + 1) (.ex (tr m T v)) ρ σ = some r) (S : St c P M σ s.heap) (F : Frm c env T P M s.heap ρ) :
    W c.M A (exec (.Expr v pos) env) (Sx c O P M s env T r) s := by
  refine bndP e ?_; clear e; rintro d σ₁ e1 e2
  first | exact deadP e2 | (refine spP e2 ?_; clear e2; rintro rfl rfl) | (refine smP e2 ?_; clear e2; rintro rfl) | cases e2
  rw [arm_exec_Expr, kf_inter E, swaps_none hv]
  refine .bind (.standAt (.bind (.pure (.bind ((ie v ρ σ _ _ e1 P M s E S F).mono fun u s₁ h₁ => ?_)))))
  refine exP2 h₁.to ?_; rintro M₁ g₁ r₁
  exact .of (wpAny_dropValue ⟨M₁, g₁.own hP, F.ext E S g₁.ex, trivial⟩)
theorem x_ret (ie : ES c A env T H n m) (E : EnvOk env T P) (hP : ∀ a ∈ O, a ∈ P) {v : Expr} {pos : Pos} {r : Fl × Rho × Sg} (e : ex H (n + 1) (.ret (some (tr m T v))) ρ σ = some r) (S : St c P M σ s.heap) (F : Frm c env T P M s.heap ρ) :
    W c.M A (exec (.Return (some v) pos) env) (Sx c O P M s env T r) s := by
  refine bndP e ?_; clear e; rintro d σ₁ e1 e2
  first | exact deadP e2 | (refine spP e2 ?_; clear e2; rintro rfl rfl) | (refine smP e2 ?_; clear e2; rintro rfl) | cases e2
  show W _ _ (standAt pos >>= fun _ => eval v env >>= fun u => pure (Flow.ret u)) _ _
  refine .bind (.standAt (.bind ((ie v ρ σ _ _ e1 P M s E S F).mono fun u s₁ h₁ => ?_)))
  refine exP2 h₁.to ?_; rintro M₁ g₁ r₁
  exact .pure ⟨M₁, g₁.own hP, F.ext E S g₁.ex, r₁⟩
theorem Tx.sx {f : Flow} (x : Tx c O P M s env T ρ' σ' s₁) (hf : f = .next) : Sx c O P M s env T (.next, ρ', σ') f s₁ := by
  refine exP2 x ?_; clear x; rintro M' g F
  subst hf
  exact ⟨M', g, F, trivial⟩
theorem each_one {t : Expr} {it : IT} (ht : trT m T t = some it) : (assignEach [t] env).map (·.2) = [assign t env] := by
  cases t <;> first | rfl | exact deadP ht
theorem swap_one {t v : Expr} {it : IT} (ht : trT m T t = some it) : swappedStores [t] v env = pure none := by
  cases t <;> first | rfl | exact deadP ht
theorem x_asg1 (ie : ES c A env T H n m) (E : EnvOk env T P) (R : Room A k) (K : Kok c T.ats) (hO : ∀ a, Own env a → a ∈ O) (hP : ∀ a ∈ O, a ∈ P) {t v : Expr} {it : IT} {pos : Pos} {r : Fl × Rho × Sg} (ht : trT m T t = some it) (hs : swapsWith v (some t) pos.line env = pure false)
    (e : ex H (n + 1) (.asg it (tr m T v)) ρ σ = some r) (S : St c P M σ s.heap) (F : Frm c env T P M s.heap ρ) :
    W c.M A (exec (.Assign [t] v pos) env) (Sx c O P M s env T r) s := by
  refine bndP e ?_; clear e; rintro d σ₁ e1 e2
  refine bndP e2 ?_; clear e2; rintro ρ₂ σ₂ e4 e3
  first | exact deadP e3 | (refine spP e3 ?_; clear e3; rintro rfl rfl) | (refine smP e3 ?_; clear e3; rintro rfl) | cases e3
  rw [arm_exec_Assign]
  have hz : swapsWithSole [t] v pos.line env = pure false := hs
  rw [hz, swap_one ht, each_one ht]
  refine .bind (.standAt (.bind (.pure (.bind ((ie v ρ σ _ _ e1 P M s E S F).mono fun u s₁ h₁ => ?_)))))
  refine exP2 h₁.to ?_; rintro M₁ g₁ r₁
  refine .bind (.pure ?_)
  show W _ _ (assign t env u >>= fun _ => pure Flow.next) _ _
  refine .bind ((s_asgT ie E R K hO hP ht e4 g₁.st (F.ext E S g₁.ex) r₁).mono fun _ s₂ h₂ => .pure ?_)
  exact (h₂.pre (g₁.own hP)).sx rfl
theorem nms_rev : ∀ (xs ys : List Str) (is js : List IT), nmsT T xs = some is → nmsT T ys = some js → nmsT T (xs ++ ys) = some (is ++ js)
  | [], ys, is, js, h1, h2 => by cases h1; exact h2
  | x :: xs, ys, is, js, h1, h2 => by
    refine bnd1 h1 ?_; clear h1; rintro i a1 h1
    refine map1 h1 ?_; clear h1; rintro is' a2 rfl
    have := nms_rev xs ys is' js a2 h2
    show nmsT T (x :: (xs ++ ys)) = _
    unfold nmsT
    rw [a1, this]; rfl
theorem nms_reverse : ∀ {xs : List Str} {is : List IT}, nmsT T xs = some is → nmsT T xs.reverse = some is.reverse
  | [], is, h1 => by cases h1; rfl
  | x :: xs, is, h1 => by
    refine bnd1 h1 ?_; clear h1; rintro i a1 h1
    refine map1 h1 ?_; clear h1; rintro is' a2 rfl
    rw [List.reverse_cons, List.reverse_cons]
    refine nms_rev _ _ _ _ (nms_reverse a2) ?_
    unfold nmsT
    rw [a1]; rfl
theorem VRs.rev : ∀ {ds : List DV} {vs : List Value}, VRs c M P h ds vs → VRs c M P h ds.reverse vs.reverse
  | [], _, x => by unfold VRs at x; subst x; exact VRs.nil
  | d :: ds, _, x => by
    unfold VRs at x
    refine byG fun GG kk => ?_
    refine exQ3 x ?_; clear x; rintro v w rfl x2 x3
    refine kk ?_
    clear kk GG
    rw [List.reverse_cons, List.reverse_cons]
    exact (VRs.rev x3).append (VRs.cons x2 VRs.nil)
theorem asgL_len : ∀ {its : List IT} {ds : List DV} {ρ : Rho} {σ : Sg} {q : Rho × Sg}, asgL H n its ds ρ σ = some q → its.length = ds.length
  | [], [], _, _, _, _ => rfl
  | [], _ :: _, _, _, _, e => by cases e
  | _ :: _, [], _, _, _, e => by cases e
  | _ :: its, _ :: ds, _, _, _, e => by
    refine bnd1 e ?_; clear e; rintro p _ e
    simp [asgL_len e]
theorem nms_len : ∀ {xs : List Str} {is : List IT}, nmsT T xs = some is → xs.length = is.length
  | [], is, h1 => by cases h1; rfl
  | x :: xs, is, h1 => by
    refine bnd1 h1 ?_; clear h1; rintro i a1 h1
    refine map1 h1 ?_; clear h1; rintro is' a2 rfl
    simp [nms_len a2]
theorem swp_if {α : Type} {q : Prop} [Decidable q] {a r : α} {x : Option α} {y : Sem α} (h : (if q then some a else x) = some r) (k : x = some r → y = pure r) : (if q then pure a else y) = pure r :=
  if hq : q then (if_pos hq).trans (congrArg pure (Option.some.inj ((if_pos hq).symm.trans h))) else (if_neg hq).trans (k ((if_neg hq).symm.trans h))
theorem swp_ok (E : EnvOk env T P) {ts vs : List Expr} {k k' : Nat} {p p' : Pos} {r : Option (List Str)} (h : swpOf T ts vs = some r) : swappedStores [.Tuple ts k p] (.Tuple vs k' p') env = pure r := by
  have hk : ∀ id, (env.kindOf id == some NameKind.local) = (T.kind id == some NameKind.local) := fun id => by rw [E.kind]
  have hf : (ScopeKind.function != ScopeKind.function) = false := rfl
  unfold swappedStores
  simp only [kf_block E, hk, hf, Bool.or_false]
  exact swp_if h fun h => swp_if h fun h => swp_if h fun h => swp_if h fun h => ifN h fun hc h => (if_neg hc).trans (congrArg pure (Option.some.inj h))
theorem x_asgs_plain (ie : ES c A env T H n m) (E : EnvOk env T P) (R : Room A k) (K : Kok c T.ats) (hO : ∀ a, Own env a → a ∈ O) (hP : ∀ a ∈ O, a ∈ P) {ts : List Expr} {v : Expr} {kx} {tp : Pos} {its : List IT} {pos : Pos} {r : Fl × Rho × Sg} (ht : trTs m T ts = some its) (hv : isComp v = false)
    (hss : swappedStores [.Tuple ts kx tp] v env = pure none) (e : ex H (n + 1) (.asgs false its (tr m T v)) ρ σ = some r) (S : St c P M σ s.heap) (F : Frm c env T P M s.heap ρ) :
    W c.M A (exec (.Assign [.Tuple ts kx tp] v pos) env) (Sx c O P M s env T r) s := by
  refine bndP e ?_; clear e; rintro d σ₁ e1 e2
  refine bnd1 e2 ?_; clear e2; intro ds hp e2
  cases tupD_eq hp; clear hp
  ·
    refine bndP e2 ?_; clear e2; rintro ρ₂ σ₂ e4 e3
    first | exact deadP e3 | (refine spP e3 ?_; clear e3; rintro rfl rfl) | (refine smP e3 ?_; clear e3; rintro rfl) | cases e3
    rw [arm_exec_Assign]
    have hz : swapsWithSole [.Tuple ts kx tp] v pos.line env = pure false := show swapsWith v (some (.Tuple ts kx tp)) pos.line env = pure false from swaps_none hv
    rw [hz, hss]
    refine .bind (.standAt (.bind (.pure (.bind ((ie v ρ σ _ _ e1 P M s E S F).mono fun u s₁ h₁ => ?_)))))
    refine byG fun GG kk => ?_
    refine exP2 h₁.to ?_; rintro M₁ g₁ r₁
    obtain ⟨a, vs, nt, rfl, _, _, gt, hvs⟩ := r₁
    refine kk ?_
    clear kk GG
    refine .bind (.pure ?_)
    show W _ _ ((standAt tp >>= fun _ => unpack (.ref a) (assignEach ts env)) >>= fun _ => pure Flow.next) _ _
    have F₁ := F.ext E S g₁.ex
    have go : ∀ (h' : Heap) (tk : Tok), Keep s₁.heap h' → W c.M A (assignInOrder ((assignEach ts env).map (·.2)) vs.toList) (fun _ s' => Tx c O P M₁ s₁ env T ρ₂ σ₂ s') { s₁ with heap := h', toks := tk } := fun h' tk kk =>
      (s_asgL ie E R K hO hP ts its ds vs.toList ρ σ₁ M₁ { s₁ with heap := h', toks := tk } ht e4 (g₁.st.keeps kk) (Go.frm (tk := tk) g₁.st F₁ kk) (hvs.mono kk.mono)).2.2.mono fun _ s₂ x => x.pre (Go.keep g₁.st kk)
    have facts := s_asgL (A := A) ie E R K hO hP ts its ds vs.toList ρ σ₁ M₁ s₁ ht e4 g₁.st F₁ hvs
    refine byG fun GG kk => ?_
    refine andP3 facts ?_; clear facts; rintro ⟨f1, f2⟩ f3 _
    refine kk ?_
    clear kk GG
    refine .bind (.bind (.standAt ?_))
    unfold unpack
    rw [f1, show (assignEach ts env).length = vs.size by rw [f2, f3]; simp]
    refine .bind (.holding (.of (wpAny_unpackItems_tuple R.hh (isTuple gt) fun h' hx => ?_)))
    exact (go h' s₁.toks (Keep.ofNew hx)).mono fun _ s₂ x => .pure ((x.pre (g₁.own hP)).sx rfl)
theorem x_asgs_rev (ie : ES c A env T H n m) (E : EnvOk env T P) (R : Room A k) (hO : ∀ a, Own env a → a ∈ O) (hP : ∀ a ∈ O, a ∈ P) {ts : List Expr} {v : Expr} {kx} {tp : Pos} {names : List Str} {its : List IT} {pos : Pos} {r : Fl × Rho × Sg} (ht : nmsT T names = some its) (hv : isComp v = false)
    (hss : swappedStores [.Tuple ts kx tp] v env = pure (some names)) (e : ex H (n + 1) (.asgs true its (tr m T v)) ρ σ = some r) (S : St c P M σ s.heap) (F : Frm c env T P M s.heap ρ) :
    W c.M A (exec (.Assign [.Tuple ts kx tp] v pos) env) (Sx c O P M s env T r) s := by
  refine bndP e ?_; clear e; rintro d σ₁ e1 e2
  refine bnd1 e2 ?_; clear e2; intro ds hp e2
  cases tupD_eq hp; clear hp
  ·
    refine bndP e2 ?_; clear e2; rintro ρ₂ σ₂ e4 e3
    first | exact deadP e3 | (refine spP e3 ?_; clear e3; rintro rfl rfl) | (refine smP e3 ?_; clear e3; rintro rfl) | cases e3
    rw [arm_exec_Assign]
    have hz : swapsWithSole [.Tuple ts kx tp] v pos.line env = pure false := show swapsWith v (some (.Tuple ts kx tp)) pos.line env = pure false from swaps_none hv
    rw [hz, hss]
    refine .bind (.standAt (.bind (.pure (.bind ((ie v ρ σ _ _ e1 P M s E S F).mono fun u s₁ h₁ => ?_)))))
    refine byG fun GG kk => ?_
    refine exP2 h₁.to ?_; rintro M₁ g₁ r₁
    obtain ⟨a, vs, nt, rfl, _, _, gt, hvs⟩ := r₁
    refine kk ?_
    clear kk GG
    refine .bind (.pure ?_)
    simp only [if_true] at e4
    have hl : names.length = vs.size := by
      have h1 := asgL_len e4
      have h2 := hvs.length
      have h3 := nms_len ht
      simp at h1 h2
      lia
    show W _ _ (rule _ >>= fun _ => unpackItems (.ref a) names.length none >>= fun items => assignInOrder (names.reverse.map fun n => bindName env n) items.reverse >>= fun _ => pure Flow.next) _ _
    have F₁ := F.ext E S g₁.ex
    rw [hl]
    refine .bind (.of (wpAny_rule (show W _ _ _ _ _ from .bind (.of (wpAny_unpackItems_tuple R.hh (isTuple gt) fun h' hx => ?_)))))
    have kk := Keep.ofNew hx
    refine .bind ((s_binds E hO hP names.reverse its.reverse ds.reverse vs.toList.reverse ρ σ₁ M₁ { s₁ with heap := h' } (nms_reverse ht) e4 (g₁.st.keeps kk) (Go.frm (tk := s₁.toks) g₁.st F₁ kk) (hvs.mono kk.mono).rev).mono fun _ s₂ x => .pure ?_)
    exact ((x.pre (Go.keep (tk := s₁.toks) g₁.st kk)).pre (g₁.own hP)).sx rfl
end
end
section
section
variable {c : Cx} {A : Around} {P P' M M₁ M₂ O : List Addr} {σ σ' σ₁ σ₂ : Sg} {h h' : Heap} {s s₁ s₂ : Shared} {env : Env} {T : Tb} {ρ ρ' : Rho} {d d₁ d₂ : DV} {H : Hd} {n m k : Nat}
theorem x_asg_comp (hs : HS c k H) (R : Room A k) (OT : TOk c T) (E : EnvOk env T P) (hO : ∀ a, Own env a → a ∈ O) (hP : ∀ a ∈ O, a ∈ P) {x : Str} {p : Pos} {elt : Expr} {gens : List Comprehension} {scope : Scope} {q : Pos} {it : IT} {pos : Pos} {r : Fl × Rho × Sg} (ht : trT m T (.Name x p) = some it)
    (hsw : swapsWith (.ListComp elt gens scope q) (some (.Name x p)) pos.line env = pure true)
    (e : ex H (n + 1) (.asg it (tr m T (.ListComp elt gens scope q))) ρ σ = some r) (S : St c P M σ s.heap) (F : Frm c env T P M s.heap ρ) :
    W c.M A (exec (.Assign [.Name x p] (.ListComp elt gens scope q) pos) env) (Sx c O P M s env T r) s := by
  refine bndP e ?_; clear e; rintro d σ₁ e1 e2
  refine bndP e2 ?_; clear e2; rintro ρ₂ σ₂ e4 e3
  first | exact deadP e3 | (refine spP e3 ?_; clear e3; rintro rfl rfl) | (refine smP e3 ?_; clear e3; rintro rfl) | cases e3
  rw [arm_exec_Assign]
  have hz : swapsWithSole [.Name x p] (.ListComp elt gens scope q) pos.line env = pure true := hsw
  rw [hz]
  refine .bind (.standAt (.bind (.pure ?_)))
  show W _ _ ((comprehension (.ListComp elt gens scope q) scope env (firstIterPos gens q) (newList []) (firstAsync gens) (firstIter gens env) (some fun v => assign (.Name x p) env v) >>= fun _ => pure PUnit.unit) >>= fun _ => pure Flow.next) _ _
  refine map1 ht ?_; clear ht; rintro i hi rfl
  refine ifP e4 ?_; clear e4; intro hl e4
  refine spP e4 ?_; clear e4; rintro rfl rfl
  cases n with
  | zero => cases e1
  | succ n =>
    cases m with
    | zero => cases e1
    | succ m =>
      refine .bind (.bind ((comp_any (OO := O) (ρ₂ := ρ.set i (some d)) (fun A env T R O => ev_sound hs n m A env T R O) R OT e1 E S F (Post := fun _ s' => Tx c O P M s env T (ρ.set i (some d)) σ₁ s') (fun z => by cases z) (fun u hu => ?_)).mono fun _ s' h => .pure (.pure (h.sx rfl))))
      first | exact deadP hu | (refine spP hu ?_; clear hu; rintro rfl rfl) | (refine smP hu ?_; clear hu; rintro rfl) | cases hu
      refine ⟨hP, fun P₁ M₁ s₁ v hP₁ E₁ S₁ F₁ r₁ => ?_, fun s' h => h⟩
      exact .of (a_name E₁ S₁ F₁ hi hl (.inr hO) (fun a ha => hP₁ a (hP a ha)) r₁ fun s' g _ F' => ⟨g, F'⟩)
theorem pure_bool {b : Bool} {m : Sem Bool} (h : m = pure b) : m = pure true ∨ m = pure false := by cases b <;> simp [h]
theorem x_asg (hs : HS c k H) (R : Room A k) (OT : TOk c T) (E : EnvOk env T P) (hO : ∀ a, Own env a → a ∈ O) (hP : ∀ a ∈ O, a ∈ P) {t v : Expr} {it : IT} {pos : Pos} {r : Fl × Rho × Sg} (ht : trT m T t = some it)
    (e : ex H (n + 1) (.asg it (tr m T v)) ρ σ = some r) (S : St c P M σ s.heap) (F : Frm c env T P M s.heap ρ) :
    W c.M A (exec (.Assign [t] v pos) env) (Sx c O P M s env T r) s := by
  have ie := (ev_sound hs n m A env T R OT).1
  have one := fun h => x_asg1 (pos := pos) ie E R OT.k hO hP ht h e S F
  have ev0 : ∃ p, ev H n (tr m T v) ρ σ = some p := let ⟨p, h, _⟩ := Option.bind_eq_some_iff.mp e; ⟨p, h⟩
  refine exP1 ev0 ?_; clear ev0; rintro p₀ ev0
  cases hv : isComp v with
  | false => exact one (swaps_none hv)
  | true =>
    cases v with
    | ListComp elt gens scope q =>
      cases t with
      | Name x p =>
        rcases pure_bool (show swapsWith (.ListComp elt gens scope q) (some (.Name x p)) pos.line env = pure _ from rfl) with h | h
        · exact x_asg_comp hs R OT E hO hP ht h e S F
        · exact one h
      | Attribute o a p => exact one rfl
      | Subscript o i p => exact one rfl
      | _ => exact deadP ht
    | SetComp _ _ _ _ => exact absurd ev0 (by cases n <;> cases m <;> exact fun z => nomatch z)
    | DictComp _ _ _ _ _ => exact absurd ev0 (by cases n <;> cases m <;> exact fun z => nomatch z)
    | _ => cases hv
theorem x_if (ts : TS c A env T H n m) (X : XS c A env T O H n m) (E : EnvOk env T P) (hP : ∀ a ∈ O, a ∈ P) {t : Expr} {a b : List Stmt} {pos : Pos} {r : Fl × Rho × Sg}
    (e : ex H (n + 1) (.ifS (tr m T t) (a.map (trS m T)) (b.map (trS m T))) ρ σ = some r) (S : St c P M σ s.heap) (F : Frm c env T P M s.heap ρ) :
    W c.M A (exec (.If t a b pos) env) (Sx c O P M s env T r) s := by
  refine bndP e ?_; clear e; rintro d σ₁ e1 e2
  refine bnd1 e2 ?_; clear e2; rintro u e3 e4
  cases asB_eq e3
  rw [arm_exec_If]
  refine .bind (.standAt (.bind ((ts t ρ σ _ _ e1 P M s E S F).mono fun x s₁ h₁ => ?_)))
  obtain ⟨rfl, M₁, g₁⟩ := h₁
  have F₁ := F.ext E S g₁.ex
  cases x with
  | true =>
    refine .pos rfl ((block_of X a ρ σ₁ r e4 P M₁ s₁ E hP g₁.st F₁).mono fun _ s₂ x => x.pre (g₁.own hP))
  | false =>
    refine .neg (fun z => by cases z) ((block_of X b ρ σ₁ r e4 P M₁ s₁ E hP g₁.st F₁).mono fun _ s₂ x => x.pre (g₁.own hP))
theorem x_for_list {two : Bool} {vs : List Nat} {target iter : Expr} {its : List (List DV)} {σ₁ : Sg} (R : Room A k) (tg : TgOk T target two vs) {body : List Stmt} {f : Rho → Sg → Out} (B : BS c A env T O body f) (E : EnvOk env T P) (hO : ∀ a, Own env a → a ∈ O) (hP : ∀ a ∈ O, a ∈ P) {pos : Pos}
    (hset : ∀ l q p, iter ≠ .Set l q p) {r : Fl × Rho × Sg} (e : forL (fun x ρ' s => (setAll ρ' vs x).bind fun ρ'' => f ρ'' s) its ρ σ₁ = some r)
    (src : W c.M A (eval iter env) (Ready c A target two P M s σ₁ (NowL its) (EndL its)) s) (S : St c P M σ s.heap) (F : Frm c env T P M s.heap ρ) :
    W c.M A (exec (.For target iter body [] pos) env) (Sx c O P M s env T r) s :=
  x_for R tg B E hO hP hset (src.mono fun xv s₁ h => ⟨h, fun _ _ _ => turns_forL its 0 ρ σ₁ r rfl (Nat.zero_le _) e⟩) S F
theorem swp_plain {ts : List Expr} {kx : Nat} {tp : Pos} {v : Expr} (hne : tupE v = none) : swappedStores [.Tuple ts kx tp] v env = pure none := by
  cases v with
  | Tuple a b p => exact deadP hne.symm
  | _ => rfl
theorem forZL_items {f : List DV → Rho → Sg → Out} {la j : Nat} {r : List DV} {q : Fl × Rho × Sg} (e : forZL f la j r ρ σ = some q) : ∃ l, items σ (.loc la) = some l := by
  cases r <;> exact bnd1 e fun l e1 _ => ⟨l, e1⟩
theorem x_pairs (ie : ES c A env T H n m) (R : Room A k) {vs : List Nat} {target iter : Expr} (tg : TgOk T target true vs) {body : List Stmt} (B : BS c A env T O body (exL (ex H n) (body.map (trS m T)))) (E : EnvOk env T P) (hO : ∀ a, Own env a → a ∈ O) (hP : ∀ a ∈ O, a ∈ P) {pos : Pos}
    {r : Fl × Rho × Sg} (e : ex H (n + 1) (.for_ vs .pairs (tr m T iter) (body.map (trS m T))) ρ σ = some r) (S : St c P M σ s.heap) (F : Frm c env T P M s.heap ρ) :
    W c.M A (exec (.For target iter body [] pos) env) (Sx c O P M s env T r) s := by
  refine bndP e ?_; clear e; rintro d σ₁ e1 e2
  refine bnd1 e2 ?_; clear e2; rintro its e2 e3
  refine ifP e3 ?_; clear e3; intro _ e3
  exact x_for_list R tg B E hO hP (tr_not_set e1) e3 (s_src_pairs ie R E e1 e2 S F) S F
theorem x_for_name (ie : ES c A env T H n m) (R : Room A k) (OT : TOk c T) {x : Str} {p : Pos} {i : Nat} (hi : T.var x = some i) {iter : Expr} {body : List Stmt} (B : BS c A env T O body (exL (ex H n) (body.map (trS m T)))) (E : EnvOk env T P) (hO : ∀ a, Own env a → a ∈ O) (hP : ∀ a ∈ O, a ∈ P) {pos : Pos}
    (hne : (!isEnum (srcOf T iter).1) = true) {r : Fl × Rho × Sg} (e : ex H (n + 1) (.for_ [i] (srcOf T iter).1 (tr m T (srcOf T iter).2) (body.map (trS m T))) ρ σ = some r) (S : St c P M σ s.heap) (F : Frm c env T P M s.heap ρ) :
    W c.M A (exec (.For (.Name x p) iter body [] pos) env) (Sx c O P M s env T r) s := by
  refine bndP e ?_; clear e; intro d σ₁ e1 e2
  refine bnd1 e2 ?_; clear e2; intro its e2 e3
  refine ifP e3 ?_; clear e3; intro _ e3
  exact x_for_list R (.one x p i hi) B E hO hP (src_set e1) e3 (s_src_name ie R E OT.g (fun z => by rw [z] at hne; exact nomatch hne) src_np e1 e2 S F) S F
theorem x_for_two (ie : ES c A env T H n m) (R : Room A k) (OT : TOk c T) {target iter : Expr} {i j : Nat} (tg : TgOk T target true [i, j]) (htup : ∃ elts kk p, target = .Tuple elts kk p) {body : List Stmt} (B : BS c A env T O body (exL (ex H n) (body.map (trS m T)))) (E : EnvOk env T P) (hO : ∀ a, Own env a → a ∈ O) (hP : ∀ a ∈ O, a ∈ P) {pos : Pos}
    {r : Fl × Rho × Sg} (e : ex H (n + 1) ((zipOf T iter).elim (.for_ [i, j] .pairs (tr m T iter) (body.map (trS m T))) fun q => .forZ i j (tr m T q.1) (tr m T q.2) (body.map (trS m T))) ρ σ = some r) (S : St c P M σ s.heap) (F : Frm c env T P M s.heap ρ) :
    W c.M A (exec (.For target iter body [] pos) env) (Sx c O P M s env T r) s := by
  refine elimP (p := fun q => ex H (n + 1) q ρ σ = some r) e (fun _ e => x_pairs ie R tg B E hO hP e S F) fun q hq e' => ?_
  clear e
  obtain ⟨f, pc, rfl, hz⟩ := zip_of hq
  obtain ⟨elts, kk, tp, rfl⟩ := htup
  refine bndP e' ?_; clear e'; intro d₁ σ₁ e1 e
  refine bndP e ?_; clear e; intro d₂ σ₂ e2 e
  refine bnd1 e ?_; clear e; intro la h1 e
  refine bnd1 e ?_; clear e; intro lb h2 e
  refine ifP e ?_; clear e; intro _ e
  cases locD_eq h1; cases lstD_eq h2
  obtain ⟨l, e3⟩ := forZL_items e
  exact x_for R tg B E hO hP (fun _ _ _ => Expr.noConfusion) ((s_src_zip ie R E OT.g hz e1 e2 e3 S F).mono fun xv s₁ h => ⟨h, fun _ _ _ => turns_forZL lb 0 ρ σ₂ r rfl (Nat.zero_le _) e⟩) S F
theorem not_iff {b : Bool} (h : (!b) = true) : b = false := by cases b <;> first | rfl | exact nomatch h
theorem xs_step (hs : HS c k H) (R : Room A k) (OT : TOk c T) (hO : ∀ a, Own env a → a ∈ O) (X : XS c A env T O H n m) : XS c A env T O H (n + 1) (m + 1) := by
  have ie := (ev_sound hs n m A env T R OT).1
  have it := (ev_sound hs n m A env T R OT).2
  have B := block_of X
  intro st
  cases st with
  | Expr v pos =>
    intro ρ σ r e P M s E hP S F
    exact ifS_P e fun hc e => x_expr ie E hP (not_iff hc) e S F
  | Return v pos =>
    intro ρ σ r e P M s E hP S F
    cases v with
    | none => cases e; exact .bind (.standAt (.pure ⟨M, Go.self S, F, rfl⟩))
    | some v => exact x_ret ie E hP e S F
  | Continue pos =>
    intro ρ σ r e P M s E hP S F
    cases e
    rw [arm_exec_Continue]
    exact .bind (.standAt (.pure ⟨M, Go.self S, F, trivial⟩))
  | Assign ts v pos =>
    intro ρ σ r e P M s E hP S F
    refine optS_P e ?_; clear e; intro t h1 e
    cases one_of h1; clear h1
    refine elimP (p := fun q => ex H (n + 1) q ρ σ = some r) e (fun _ e => optS_P e fun itt ht e => x_asg hs R OT E hO hP ht e S F) fun ts' ht e' => ?_
    clear e
    refine ifS_P e' ?_; clear e'; intro hc e
    obtain ⟨kk, tp, rfl⟩ := tup_of ht
    refine elimP (p := fun q => ex H (n + 1) q ρ σ = some r) e (fun hv e => optS_P e fun its hn e => x_asgs_plain ie E R OT.k hO hP hn (not_iff hc) (swp_plain hv) e S F) fun vs hv e' => ?_
    clear e
    refine optS_P e' ?_; clear e'; intro o hsw e
    obtain ⟨k', p', rfl⟩ := tup_of hv
    cases o with
    | none => exact optS_P e fun its hn e => x_asgs_plain ie E R OT.k hO hP hn (not_iff hc) (swp_ok E hsw) e S F
    | some names => exact optS_P e fun its hn e => x_asgs_rev ie E R hO hP hn (not_iff hc) (swp_ok E hsw) e S F
  | If t a b pos =>
    intro ρ σ r e P M s E hP S F
    exact x_if it X E hP e S F
  | While t b els pos =>
    intro ρ σ r e P M s E hP S F
    refine ifS_P e ?_; clear e; intro he e
    cases List.isEmpty_iff.mp he
    exact x_while R it (B _) E hO hP e S F
  | For target iter b els pos =>
    intro ρ σ r e P M s E hP S F
    refine ifS_P e ?_; clear e; intro he e
    cases List.isEmpty_iff.mp he
    refine elimP (p := fun q => ex H (n + 1) q ρ σ = some r) e (fun _ e => optS_P e fun x hx e => optS_P e fun i hi e => ifS_P e fun hne e' => ?_) fun l hl e => optS_P e fun q h1 e => optS_P e fun x h2 e => optS_P e fun y h3 e => optS_P e fun i hi e => optS_P e fun j hj e => ifS_P e fun hxy e' => ?_
    · obtain ⟨p, rfl⟩ := name_of hx
      exact x_for_name ie R OT hi (B _) E hO hP hne e' S F
    · obtain ⟨kk, tp, rfl⟩ := tup_of hl
      obtain ⟨px, e2⟩ := name_of h2
      obtain ⟨py, e3⟩ := name_of h3
      cases (two_of h1).trans (by rw [e2, e3])
      exact x_for_two ie R OT (.two x y px py _ _ i j hi hj (of_decide_eq_false (not_iff hxy))) ⟨_, _, _, rfl⟩ (B _) E hO hP e' S F
  | _ => exact fun ρ σ r e P M s E hP S F => ex_stk' e
theorem ex_sound (hs : HS c k H) (R : Room A k) (OT : TOk c T) (hO : ∀ a, Own env a → a ∈ O) : ∀ n m : Nat, XS c A env T O H n m
  | 0, _ => fun st ρ σ r e => deadP e
  | n + 1, 0 => fun st ρ σ r e => ex_stk' e
  | n + 1, m + 1 => xs_step hs R OT hO (ex_sound hs R OT hO n m)
end
end
section
theorem lookup_zip_some : ∀ {ns : List Str} {vs : List Value} {x : Str}, ns.length = vs.length → x ∈ ns → ∃ v, (ns.zip vs).lookup x = some v
  | n :: ns, v :: vs, x, hl, hx => by
    rw [List.zip_cons_cons, List.lookup_cons]
    cases hb : x == n with
    | true => exact ⟨v, rfl⟩
    | false =>
      rcases List.mem_cons.mp hx with rfl | hx
      · simp at hb
      · exact lookup_zip_some (by simpa using hl) hx
  | [], _, _, _, hx => by cases hx
  | _ :: _, [], _, hl, _ => by cases hl
theorem zip_filterMap : ∀ {ns : List Str} {vs : List Value}, ns.length = vs.length → ns.Nodup → ∀ f : Str → Option Value, (∀ (i : Nat) (x : Str), ns[i]? = some x → f x = vs[i]?) → (ns.filterMap fun n => (f n).map (n, ·)) = ns.zip vs
  | [], [], _, _, f, _ => rfl
  | n :: ns, v :: vs, hl, hn, f, hf => by
    rw [List.filterMap_cons, hf 0 n rfl]
    show (n, v) :: _ = _
    rw [zip_filterMap (by simpa using hl) (List.nodup_cons.mp hn).2 f (fun i x h => hf (i + 1) x h)]
    rfl
  | [], _ :: _, hl, _, _, _ => by cases hl
  | _ :: _, [], hl, _, _, _ => by cases hl
theorem zip_lookup : ∀ {ns : List Str} {vs : List Value}, ns.length = vs.length → ns.Nodup → ∀ (i : Nat) (x : Str), ns[i]? = some x → (ns.zip vs).lookup x = vs[i]?
  | [], _, _, _, i, x, h => by simp at h
  | n :: ns, v :: vs, hl, hn, i, x, h => by
    rw [List.zip_cons_cons, List.lookup_cons]
    cases i with
    | zero => cases h; simp
    | succ i =>
      have hx : x ∈ ns := List.mem_of_getElem? h
      have : (x == n) = false := by
        rw [beq_eq_false_iff_ne]; rintro rfl; exact (List.nodup_cons.mp hn).1 hx
      rw [this]
      exact zip_lookup (by simpa using hl) (List.nodup_cons.mp hn).2 i x h
  | _ :: _, [], hl, _, _, _, _ => by cases hl
theorem map_non {α β : Type} (f : α → β) : List.map f [] = [] := rfl
theorem app_non {α : Type} (l : List α) : [] ++ l = l := rfl
theorem sem_none : seqItems? Value.none = pure none := rfl
theorem sem_for {α β : Type} (b : β) (f : α → β → Sem (ForInStep β)) : forIn ([] : List α) b f = pure b := rfl
theorem sem_pb {α β : Type} (a : α) (f : α → Sem β) : (pure a >>= f) = f a := rfl
theorem binds_plain {fd : FuncData} {vals : List Value} (h1 : fd.params.posonlyargs = []) (h2 : fd.params.vararg = none) (h3 : fd.params.kwonlyargs = []) (h4 : fd.params.kwarg = none) (hd : fd.defaults = .none) (hn : (fd.params.args.map (·.arg)).Nodup) (hl : fd.params.args.length = vals.length) :
    bindArgs fd ⟨vals, []⟩ = pure ((fd.params.args.map (·.arg)).zip vals) := by
  obtain ⟨name, qn, params, body, scope, gl, clo, df, kd, doc, pm, ann, ct, bi⟩ := fd
  obtain ⟨po, ar, va, ko, kdf, kw, dfl⟩ := params
  dsimp only at h1 h2 h3 h4 hd hn hl
  subst h1 h2 h3 h4 hd
  have hl' : (ar.map (·.arg)).length = vals.length := (List.length_map ..).trans hl
  dsimp only [bindArgs]
  dsimp only [sem_none, sem_pb, sem_for, map_non, app_non]
  generalize ar.map (·.arg) = ns at hn hl'
  have hm : (List.filter (fun n => (List.lookup n (ns.zip vals)).isNone) (List.take (ns.length - (List.drop ((none.getD (#[] : Array Value)).toList.length - ns.length) (none.getD (#[] : Array Value)).toList).length) ns)) = [] := by
    rw [List.filter_eq_nil_iff]
    intro x hx
    obtain ⟨v, hv⟩ := lookup_zip_some hl' (List.mem_of_mem_take hx)
    rw [hv]; simp
  have hz : (List.drop ((none.getD (#[] : Array Value)).toList.length - ns.length) (none.getD (#[] : Array Value)).toList) = [] := by simp
  refine (if_neg (by simp [hl'])).trans ?_
  refine (if_neg (by rw [hm]; exact Bool.false_ne_true)).trans ?_
  rw [hz, List.zip_nil_right, List.append_nil]
  exact congrArg (pure (f := Sem)) (zip_filterMap hl' hn _ (zip_lookup hl' hn))
noncomputable def psOf (fd : FuncData) : List Str := fd.params.args.map (·.arg)
noncomputable def restOf (fd : FuncData) : List Str := fd.scope.names.filterMap fun (x, k) => if (k == .local || k == .cell) && !(psOf fd).contains x then some x else none
noncomputable def fnOk (fd : FuncData) : Bool :=
  fd.scope.kind == .function && !fd.scope.isCoroutine && !fd.scope.isGenerator && fd.closure.isEmpty && fd.globals == mainGlobals && fd.builtins == builtinsNs &&
  decide (psOf fd ++ restOf fd).Nodup && ((psOf fd).all fun x => fd.scope.names.lookup x == some .local || fd.scope.names.lookup x == some .cell) && fd.scope.names.all fun p => p.2 != .free
noncomputable def fnTb (fd : FuncData) (gl : Str → Option Value) (mt : Str → Nat → Option (Addr × Addr)) (mu : List Pos) (ats : List Str) : Tb :=
  ⟨fun x => fd.scope.names.lookup x, (psOf fd ++ restOf fd).map some, gl, mt, mu, ats⟩
noncomputable def runF (H : Hd) (f : Fn) : Fun := fun args σ =>
  if args.length + f.dflt.length = f.np then
    (exL (ex H 64) f.body ((args ++ f.dflt).map some ++ List.replicate f.nl none) σ).bind fun r => match r.1 with
      | .ret d => some (d, r.2.2)
      | .next => some (.none, r.2.2)
      | .cont => none
  else none
theorem cells_has : ∀ (names : List (Str × NameKind)) (n : Nat) (acc : List (Str × Addr)) (x : Str), (acc.lookup x).isSome = true ∨ (x, NameKind.cell) ∈ names → ((cellsFrom n names acc).lookup x).isSome = true
  | [], n, acc, x, h => by
    rcases h with h | h
    · exact h
    · first | exact deadP h | (refine spP h ?_; clear h; rintro rfl rfl) | (refine smP h ?_; clear h; rintro rfl) | cases h
  | (y, kk) :: r, n, acc, x, h => by
    unfold cellsFrom
    split
    · rename_i hk
      refine cells_has r _ _ x ?_
      rcases h with h | h
      · left
        rw [List.lookup_cons]
        cases x == y <;> first | rfl | exact h
      · rcases List.mem_cons.mp h with h | h
        · first | exact deadP h | (refine spP h ?_; clear h; rintro rfl rfl) | (refine smP h ?_; clear h; rintro rfl) | cases h
          left
          rw [List.lookup_cons]; simp
        · exact .inr h
    · rename_i hk
      refine cells_has r _ _ x (h.imp id fun h => ?_)
      rcases List.mem_cons.mp h with h | h
      · cases h; exact absurd rfl hk
      · exact h
theorem bindL_other {kindOf : Str → Option NameKind} {x : Str} : ∀ {l : List (Str × Value)} {m : Str → Option Value}, x ∉ l.map (·.1) → bindL kindOf l m x = m x
  | [], m, _ => rfl
  | (y, v) :: r, m, h => by
    have h1 : x ≠ y := fun z => h (by simp [z])
    have h2 : x ∉ r.map (·.1) := fun z => h (by simp at z ⊢; exact .inr z)
    unfold bindL
    rw [bindL_other h2]
    split <;> simp [h1]
theorem bindC_other {kindOf : Str → Option NameKind} {x : Str} : ∀ {l : List (Str × Value)} {m : Str → Option Value}, x ∉ l.map (·.1) → bindC kindOf l m x = m x
  | [], m, _ => rfl
  | (y, v) :: r, m, h => by
    have h1 : x ≠ y := fun z => h (by simp [z])
    have h2 : x ∉ r.map (·.1) := fun z => h (by simp at z ⊢; exact .inr z)
    unfold bindC
    rw [bindC_other h2]
    split <;> simp [h1]
theorem zip_fst : ∀ {ns : List Str} {vs : List Value}, ns.length = vs.length → (ns.zip vs).map (·.1) = ns := fun h => List.map_fst_zip (Nat.le_of_eq h)
theorem bindL_get {kindOf : Str → Option NameKind} : ∀ {ns : List Str} {vs : List Value} {m : Str → Option Value}, ns.length = vs.length → ns.Nodup → ∀ (i : Nat) (x : Str), ns[i]? = some x → kindOf x = some .local → bindL kindOf (ns.zip vs) m x = vs[i]?
  | [], _, _, _, _, i, x, h, _ => by simp at h
  | n :: ns, v :: vs, m, hl, hn, i, x, h, hk => by
    have hl' : ns.length = vs.length := by simpa using hl
    rw [List.zip_cons_cons]
    unfold bindL
    cases i with
    | zero =>
      first | exact deadP h | (refine spP h ?_; clear h; rintro rfl rfl) | (refine smP h ?_; clear h; rintro rfl) | cases h
      rw [bindL_other (by rw [zip_fst hl']; exact (List.nodup_cons.mp hn).1), if_pos hk]; simp
    | succ i => exact bindL_get hl' (List.nodup_cons.mp hn).2 i x h hk
  | _ :: _, [], _, hl, _, _, _, _, _ => by cases hl
theorem bindC_get {kindOf : Str → Option NameKind} : ∀ {ns : List Str} {vs : List Value} {m : Str → Option Value}, ns.length = vs.length → ns.Nodup → ∀ (i : Nat) (x : Str), ns[i]? = some x → kindOf x ≠ some .local → bindC kindOf (ns.zip vs) m x = vs[i]?
  | [], _, _, _, _, i, x, h, _ => by simp at h
  | n :: ns, v :: vs, m, hl, hn, i, x, h, hk => by
    have hl' : ns.length = vs.length := by simpa using hl
    rw [List.zip_cons_cons]
    unfold bindC
    cases i with
    | zero =>
      first | exact deadP h | (refine spP h ?_; clear h; rintro rfl rfl) | (refine smP h ?_; clear h; rintro rfl) | cases h
      rw [bindC_other (by rw [zip_fst hl']; exact (List.nodup_cons.mp hn).1), if_neg hk]; simp
    | succ i => exact bindC_get hl' (List.nodup_cons.mp hn).2 i x h hk
  | _ :: _, [], _, hl, _, _, _, _, _ => by cases hl
section
variable {c : Cx} {A : Around} {P P' M M₁ M₂ O : List Addr} {σ σ' σ₁ σ₂ : Sg} {h h' : Heap} {s s₁ s₂ : Shared} {env : Env} {T : Tb} {ρ ρ' : Rho} {d d₁ d₂ : DV} {H : Hd} {n m k : Nat}
theorem room_deeper {env : Env} (hh : A.handled = none) (hd : A.depth + 3 * k + 21 < recursionLimit) (hu : A.units + 60 * k + 303 < cLine) : Room (A.deeper env) k :=
  ⟨hh, by show A.depth + 1 + 3 * k + 20 < _; lia, by show A.units + 3 + 60 * k + 300 < _; lia⟩
theorem fn_call (hs : HS c k H) (Kin : c.K.In c.h₀) {a : Addr} {o : Obj} {fd : FuncData} {body : List Stmt} (ho : c.K.lookup a = some o) (hd : o.data = .func fd) (hok : fnOk fd = true) (hbody : fd.body = .stmts body) (hcd : codeIn c.K fd.code fd.qualname = true)
    {gl : Str → Option Value} {mt : Str → Nat → Option (Addr × Addr)} {mu : List Pos} {ats : List Str} (OT : TOk c (fnTb fd gl mt mu ats)) {nl : Nat} {dflt : List DV} {dv : List Value} (hdv : ∀ M P h, VRs c M P h dflt dv)
    (hb : ∀ (s : Shared) (vs : List Value), c.K.In s.heap → vs.length + dv.length = (psOf fd).length → BindsTo s fd ⟨vs, []⟩ ((psOf fd).zip (vs ++ dv)))
    {args : List DV} {vs : List Value} (e : runF H ⟨(psOf fd).length, nl, dflt, body.map (trS 64 (fnTb fd gl mt mu ats))⟩ args σ = some (d, σ'))
    (hh : A.handled = none) (hdp : A.depth + 3 * k + 21 < recursionLimit) (hu : A.units + 60 * k + 303 < cLine) (S : St c P M σ s.heap) (r : VRs c M P s.heap args vs) :
    CC c.M A (.call (.ref a) ⟨vs, []⟩) (fun f s' => match f with | .ret v => Ev c [] P M s σ' d v s' | _ => False) s := by
  unfold fnOk at hok
  simp only [Bool.and_eq_true, Bool.not_eq_true', beq_iff_eq, decide_eq_true_eq] at hok
  refine andP2 hok ?_; clear hok; rintro ⟨⟨⟨⟨⟨⟨⟨k1, k2⟩, k3⟩, k4⟩, k5⟩, k6⟩, k7⟩, k8⟩ k9
  have hclo : fd.closure = [] := List.isEmpty_iff.mp k4
  have X : c.K.In s.heap := Kin.keeps S.base
  unfold runF at e
  split at e
  · rename_i hlen
    dsimp only at hlen e
    refine bnd1 e ?_; clear e; rintro r₀ e1 e2
    have hal := r.length
    have hdl := (hdv M P s.heap).length
    have hvl : vs.length + dv.length = (psOf fd).length := by lia
    refine CC.call_function (by lia) (X _ _ ho) hd k2 k3 hbody (codeRec_of X hcd) (hb s vs X hvl _ _ _ _ ?_)
    rw [hclo]
    have hnd := List.nodup_append.mp k7
    have hzl : (psOf fd).length = (vs ++ dv).length := by simp; lia
    have k8' : ∀ x ∈ psOf fd, fd.scope.names.lookup x = some .local ∨ fd.scope.names.lookup x = some .cell := fun x hx => by
      have := List.all_eq_true.mp k8 x hx
      simpa using this
    have hcell : ∀ n x, fd.scope.names.lookup x = some .cell → ((cellsFrom n fd.scope.names []).lookup x).isSome = true := fun n x hx => cells_has _ _ _ _ (.inr (mem_of_lookup hx))
    refine wpAny_newFunctionEnv_cells k1 (fun x hx => ?_) fun env he s₁ I => ?_
    · have : x.1 ∈ psOf fd := by
        have := List.mem_map_of_mem (f := (·.1)) hx
        rwa [zip_fst hzl] at this
      rcases k8' _ this with z | z
      · exact .inl z
      · exact .inr ⟨z, hcell _ _ z⟩
    subst he
    obtain ⟨I1, I2, I3, I4⟩ := I
    obtain ⟨⟨h₁, tk, rfl⟩, Ins, Ikeep, Ifresh⟩ := I1
    let env : Env := newEnv fd.scope s.heap.objs.size fd.globals (cellsFrom (s.heap.objs.size + 1) fd.scope.names []) (fd.qualname ++ ".<locals>.") (some a) fd.code none fd.builtins
    let own : List Addr := env.locals :: env.cells.filterMap fun p => env.cells.lookup p.1
    let T : Tb := fnTb fd gl mt mu ats
    have ownI : ∀ a ∈ own, a = env.locals ∨ ∃ x, env.cells.lookup x = some a := fun a ha => by
      rcases List.mem_cons.mp ha with rfl | ha
      · exact .inl rfl
      · refine exP2 (List.mem_filterMap.mp ha) ?_; rintro p _ hp
        exact .inr ⟨p.1, hp⟩
    have ownE : ∀ a, Own env a → a ∈ own := fun a ha => by
      rcases ha with rfl | ⟨x, hx⟩
      · exact .head _
      · exact List.mem_cons_of_mem _ (List.mem_filterMap.mpr ⟨(x, a), mem_of_lookup hx, hx⟩)
    have ownS : ∀ a ∈ own, s.heap.objs.size ≤ a := fun a ha => by
      rcases ownI a ha with rfl | ⟨x, hx⟩
      · exact Nat.le_refl _
      · exact Nat.le_of_lt (I4 x a (mem_of_lookup hx))
    have ownN : ∀ a ∈ own, s.heap.get? a = none := fun a ha => none_of_le (ownS a ha)
    have ownL : ∀ a ∈ own, ∃ o, h₁.get? a = some o := fun a ha => by
      rcases ownI a ha with rfl | ⟨x, hx⟩
      · obtain ⟨o, es, ep, h, _⟩ := Ins; exact ⟨o, h⟩
      · obtain ⟨o, h, _⟩ := I2 x a hx; exact ⟨o, h⟩
    have enter : ∀ b ∈ own ++ P, b ∈ P ∨ s.heap.get? b = none := fun b hb => by
      rcases List.mem_append.mp hb with hb | hb
      · exact .inr (ownN b hb)
      · exact .inl hb
    have S₁ : St c (own ++ P) M σ h₁ := S.enter Ikeep enter fun b hb => by
      rcases List.mem_append.mp hb with hb | hb
      · exact ownL b hb
      · obtain ⟨o, ho⟩ := S.live b hb; exact ⟨o, Ikeep _ _ ho⟩
    have mo : Mono M M P (own ++ P) s.heap h₁ := Mono.enter Ikeep enter
    have hall : VRs c M (own ++ P) h₁ (args ++ dflt) (vs ++ dv) := (r.mono mo).append (hdv _ _ _)
    have E : EnvOk env T (own ++ P) := by
      refine ⟨k1, fun x => rfl, k5, k6, List.mem_append_left _ (.head _), fun x b hb => ⟨List.mem_append_left _ (ownE b (.inr ⟨x, hb⟩)), Nat.ne_of_gt (I4 x b (mem_of_lookup hb))⟩, fun x y b h1 h2 => name_of_addr I3 (mem_of_lookup h1) (mem_of_lookup h2), fun x hx => ?_, fun i j x h1 h2 => ?_⟩
      · rcases hx with hx | hx
        · exact hcell _ _ hx
        · have := List.all_eq_true.mp k9 _ (mem_of_lookup hx)
          exact absurd this (by simp)
      · have g1 : (psOf fd ++ restOf fd)[i]? = some x := by
          rw [show T.nm = (psOf fd ++ restOf fd).map some from rfl, List.getElem?_map] at h1
          refine map1 h1 ?_; clear h1; rintro y h e
          cases e; exact h
        have g2 : (psOf fd ++ restOf fd)[j]? = some x := by
          rw [show T.nm = (psOf fd ++ restOf fd).map some from rfl, List.getElem?_map] at h2
          refine map1 h2 ?_; clear h2; rintro y h e
          cases e; exact h
        exact (List.getElem?_inj (List.getElem?_eq_some_iff.mp g1).1 k7).mp (g1.trans g2.symm)
    have place : ∀ (i : Nat) (x : Str) (d : DV), T.nm[i]? = some (some x) → ((args ++ dflt).map some ++ List.replicate nl none)[i]? = some (some d) → (psOf fd)[i]? = some x ∧ (args ++ dflt)[i]? = some d := fun i x d h1 h2 => by
      have hi : (args ++ dflt)[i]? = some d := by
        by_cases z : i < ((args ++ dflt).map some).length
        · rw [List.getElem?_append_left z, List.getElem?_map] at h2
          refine map1 h2 ?_; clear h2; rintro y h e
          cases e; exact h
        · rw [List.getElem?_append_right (by lia)] at h2
          refine exP1 (List.getElem?_eq_some_iff.mp h2) ?_; rintro z1 z2
          rw [List.getElem_replicate] at z2; cases z2
      refine ⟨?_, hi⟩
      have hlt : i < (psOf fd).length := by
        have := (List.getElem?_eq_some_iff.mp hi).1
        simp at this; lia
      rw [show T.nm = (psOf fd ++ restOf fd).map some from rfl, List.getElem?_map] at h1
      refine map1 h1 ?_; clear h1; rintro y h e
      first | exact deadP e | (refine spP e ?_; clear e; rintro rfl rfl) | (refine smP e ?_; clear e; rintro rfl) | cases e
      rwa [List.getElem?_append_left hlt] at h
    have F : Frm c env T (own ++ P) M h₁ ((args ++ dflt).map some ++ List.replicate nl none) := by
      refine ⟨⟨_, Ins, fun i x d a b q => ?_⟩, fun x b hb => ⟨_, I2 x b hb, fun i d a b q => ?_⟩⟩
      · refine andP2 (place i x d a q) ?_; rintro p1 p2
        refine exP2 (hall.get p2) ?_; rintro v hv hr
        exact ⟨v, (bindL_get hzl hnd.1 i x p1 b).trans hv, hr⟩
      · refine andP2 (place i x d a q) ?_; rintro p1 p2
        refine exP2 (hall.get p2) ?_; rintro v hv hr
        refine ⟨v, (bindC_get hzl hnd.1 i x p1 (fun z => ?_)).trans hv, hr⟩
        have z' : T.kind x = some .local := z
        rcases b with b | b <;> (rw [z'] at b; cases b)
    refine ⟨S.nl.keeps fun b o e => Ikeep b o (S.base b o e), CC.func ?_⟩
    have go := block_of (ex_sound (A := A.deeper env) (O := own) hs (room_deeper hh hdp hu) OT ownE 64 64) body _ _ _ e1 (own ++ P) M { s with heap := h₁, toks := tk } E (fun a ha => List.mem_append_left _ ha) S₁ F
    refine W.mono (s := { s with heap := h₁, toks := tk }) go fun f s' hx => ?_
    refine exP3 hx ?_; clear hx; rintro M' g F' fr
    have sub : ∀ a ∈ P, a ∈ own ++ P := fun a ha => List.mem_append_right _ ha
    have back : ∀ a, h₁.get? a = none → s.heap.get? a = none := fun a z => by
      cases q : s.heap.get? a with
      | none => rfl
      | some o => have := Ikeep _ _ q; rw [z] at this; cases this
    have fin : ∀ {d : DV} {v : Value}, VR c M' (own ++ P) s'.heap d v → Ev c [] P M s r₀.2.2 d v s' := fun {d v} q =>
      ⟨M', g.st.shrink sub, ⟨g.ex.pre, fun a ha => (g.ex.new a ha).imp id (back a), (fun _ _ z => nomatch z), fun b o h1 _ e => g.ex.keep b o h1 (fun z => by rw [ownN b z] at e; cases e) (Ikeep b o e)⟩, q.mono (Mono.shrink sub), g.gn, g.os⟩
    obtain ⟨fl, ρ₁, σ₁⟩ := r₀
    cases fl with
    | ret d =>
      first | exact deadP e2 | (refine spP e2 ?_; clear e2; rintro rfl rfl) | (refine smP e2 ?_; clear e2; rintro rfl) | cases e2
      cases f with
      | ret v => exact fin fr
      | _ => exact fr.elim
    | next =>
      first | exact deadP e2 | (refine spP e2 ?_; clear e2; rintro rfl rfl) | (refine smP e2 ?_; clear e2; rintro rfl) | cases e2
      cases f with
      | next => exact fin (d := .none) (by unfold VR; rfl)
      | _ => exact fr.elim
    | cont => cases e2
  · exact deadP e
end
end
section
section
variable {c : Cx} {A : Around} {P P' M M₁ M₂ O : List Addr} {σ σ' σ₁ σ₂ : Sg} {h h' : Heap} {s s₁ s₂ : Shared} {env : Env} {T : Tb} {ρ ρ' : Rho} {d d₁ d₂ : DV} {H : Hd} {n m k : Nat}
theorem under_tc {C : Addr} {rest : List Value} : (A.under (.builtin "type.__call__" ⟨.ref C :: rest, []⟩)).handled = A.handled ∧ (A.under (.builtin "type.__call__" ⟨.ref C :: rest, []⟩)).depth ≤ A.depth + 1 ∧ (A.under (.builtin "type.__call__" ⟨.ref C :: rest, []⟩)).units ≤ A.units + 2 := by
  refine ⟨rfl, ?_, ?_⟩
  · show A.depth + Code.weight _ ≤ _
    have : Code.weight (.builtin "type.__call__" ⟨.ref C :: rest, []⟩) = 1 := by
      simp only [Code.weight]
      rfl
    omega
  · show A.units + Code.cUnits _ ≤ _
    have : Code.cUnits (.builtin "type.__call__" ⟨.ref C :: rest, []⟩) ≤ 2 := by
      simp only [Code.cUnits]
      first | decide | exact Nat.le_refl _ | exact Nat.le_succ _ | omega
    omega
theorem make_W {C : Addr} {rest : List Value} {init : Value} {R : Flow → Shared → Prop} {g : Array GenState} {dr : Drawn} {t : Nat} {os : OsState} (Y : Makes c.M h C) (hi : Looks c.M h (typeLookup (.ref C) "__init__") (some init))
    (hb : ∀ self, Looks c.M h (bindSpecial init self) (init, [self])) (hne : (some init != some (Value.builtin "object.__init__")) = true)
    (hq : CC c.M (A.under (.builtin "type.__call__" ⟨.ref C :: rest, []⟩)) (.call init ⟨.ref (h.objs.size + 1) :: rest, []⟩) (fun f s' => match f with | .ret v => v = .none ∧ R (.ret (.ref (h.objs.size + 1))) s' | _ => False) ⟨(h.push emptyDict).push (instObj C h.objs.size), g, dr, t, os⟩) :
    CC c.M A (.call (.ref C) ⟨rest, []⟩) R ⟨h, g, dr, t, os⟩ := by
  have Y' := Y
  obtain ⟨⟨oc, od, cd, sl, hC, e1, e2, e4⟩, made, base, self, top, call, typ⟩ := Y
  refine CC.tree rfl ?_
  show W _ A.in1 (callAny (.ref C) _) _ _
  simp only [callAny]
  refine .leaf (wpAny_load hC ?_)
  show W _ _ (callAny.viaDunder (.ref C) _) _ _
  unfold callAny.viaDunder
  refine .leaf (call.at ?_)
  dsimp only
  rw [tc_bind]
  refine .bind (.pure (.bind (.pure ?_)))
  refine W.pos rfl (.pure ⟨rfl, rfl, ?_⟩)
  refine CC.tree rfl ?_
  show W _ A.in1 (checkBuiltinCall "type.__call__" ⟨.ref C :: rest, []⟩ >>= fun _ => pure (Fin.again (.builtin "type.__call__" ⟨.ref C :: rest, []⟩))) _ _
  refine .leaf (check_slot tc_kind tc_split typ (tc_args _ _ _) (.pure ⟨Code.quiet_builtin _ (by decide +kernel), rfl, CC.builtin rfl entry_typeCall ?_⟩))
  unfold Builtin.«type.__call__»
  have hm : Looks c.M h (mroOf (.ref C)) cd.mro := ((Looks.ld (part := none) hC).andThen .now).andThen .now
  dsimp only
  refine W.neg (fun z => Bool.false_ne_true z) ?_
  refine .leaf (hm.here ?_)
  refine W.neg (fun z => by rw [e4] at z; cases z) ?_
  refine .leaf (made.here ?_)
  refine .bind (.pure ?_)
  refine .bind (.holding (.of (wpAny_call (new_K Y' hi (.inl hne) ?_))))
  have k : ∀ b o, h.get? b = some o → ((h.push emptyDict).push (instObj C h.objs.size)).get? b = some o := fun b o e => Heap.get?_push_of_some _ (Heap.get?_push_of_some _ e)
  have hx : ((h.push emptyDict).push (instObj C h.objs.size)).get? (h.objs.size + 1) = some (instObj C h.objs.size) := by heap_get
  have t1 : Looks c.M ((h.push emptyDict).push (instObj C h.objs.size)) (typeOf (.ref (h.objs.size + 1))) (.ref C) := (Looks.ld hx).andThen .now
  have s1 := self.keeps k
  have i1 := hi.keeps k
  have b1 := (hb (.ref (h.objs.size + 1))).keeps k
  have is1 : Looks c.M ((h.push emptyDict).push (instObj C h.objs.size)) (isInstance (.ref (h.objs.size + 1)) (.ref C)) true := t1.andThen s1
  refine .leaf (is1.here ?_)
  refine W.neg (fun z => Bool.false_ne_true z) ?_
  have sp : Looks c.M ((h.push emptyDict).push (instObj C h.objs.size)) (specialOf (.ref (h.objs.size + 1)) "__init__") (some init) := t1.andThen i1
  unfold callSpecial?
  refine .bind (.holding (.leaf (sp.here ?_)))
  refine .holding (.leaf (b1.here ?_))
  refine .bind (W.call (hq.mono fun f s' hz => ?_))
  cases f with
  | ret v =>
    refine andP2 hz ?_; clear hz; rintro rfl hz
    exact .pure (W.neg (fun z => Bool.false_ne_true z) (.pure hz))
  | _ => exact hz.elim
noncomputable def clsOk (K : Frag) (C f : Addr) : Bool := makesIn K C && findIn K (.ref C) "__init__" == some (some (.ref f)) && typeIn K (.ref f) == some (.type "function")
theorem cls_call (Kin : c.K.In c.h₀) {C f : Addr} (hC : C ∈ c.cls) (hok : clsOk c.K C f = true) {F : Fun} {args : List DV} {vs : List Value}
    (hf : F (.inst C σ.length :: args) (σ ++ [.dict [] []]) = some (.none, σ'))
    (init : ∀ (P M : List Addr) (s : Shared) (vs : List Value), St c P M (σ ++ [.dict [] []]) s.heap → VRs c M P s.heap (.inst C σ.length :: args) vs →
      CC c.M (A.under (.builtin "type.__call__" ⟨.ref C :: vs.tail, []⟩)) (.call (.ref f) ⟨vs, []⟩) (fun f s' => match f with | .ret v => Ev c [] P M s σ' .none v s' | _ => False) s)
    (S : St c P M σ s.heap) (r : VRs c M P s.heap args vs) :
    CC c.M A (.call (.ref C) ⟨vs, []⟩) (fun f s' => match f with | .ret v => Ev c [] P M s σ' (.inst C σ.length) v s' | _ => False) s := by
  unfold clsOk at hok
  simp only [Bool.and_eq_true, beq_iff_eq] at hok
  refine andP2 hok ?_; clear hok; rintro ⟨k1, k2⟩ k3
  have X : c.K.In s.heap := Kin.keeps S.base
  obtain ⟨hp, g, dr, t, os⟩ := s
  dsimp only at X S r
  refine make_W (makes_of X k1) (looks_findIn X k2) (fun self => bind_fn X self k3) rfl ?_
  have kp : Keep hp ((hp.push emptyDict).push (instObj C hp.objs.size)) := fun b o e => Heap.get?_push_of_some _ (Heap.get?_push_of_some _ e)
  have fr := S.fresh
  have hd0 : hp.get? hp.objs.size = none := none_of_size
  have D0 : ((hp.push emptyDict).push (instObj C hp.objs.size)).DictOf c.kd hp.objs.size [] := (Heap.DictOf.new hp).push _
  refine andP2 (S.add (o := .dict [] []) hd0 fr.2.1 fr.2.2 kp fun _ => ⟨[], D0, rfl, VRs.nil⟩) ?_; rintro S₁ X₁
  have hx : ((hp.push emptyDict).push (instObj C hp.objs.size)).get? (hp.objs.size + 1) = some (instObj C hp.objs.size) := by heap_get
  have hx0 : hp.objs.size ≤ hp.objs.size + 1 := Nat.le_succ _
  have nf : hp.objs.size + 1 ∉ M ++ [hp.objs.size] ∧ hp.objs.size + 1 ∉ P := by
    have := S.not_of_none (s := ⟨hp, g, dr, t, os⟩) hx0
    refine ⟨fun z => ?_, this.2.1⟩
    rcases List.mem_append.mp z with z | z
    · exact this.1 z
    · have := List.mem_singleton.mp z; omega
  have hi : (M ++ [hp.objs.size])[σ.length]? = some hp.objs.size := by rw [← S.len]; simp
  have self : VR c (M ++ [hp.objs.size]) P ((hp.push emptyDict).push (instObj C hp.objs.size)) (.inst C σ.length) (.ref (hp.objs.size + 1)) := ⟨_, _, rfl, nf.1, nf.2, hx, hi, hC⟩
  have go := init P (M ++ [hp.objs.size]) ⟨(hp.push emptyDict).push (instObj C hp.objs.size), g, dr, t, os⟩ (.ref (hp.objs.size + 1) :: vs) S₁ (VRs.cons self (r.mono (X₁.mono fun _ z => nomatch z)))
  refine go.mono fun f s' hz => ?_
  cases f with
  | ret v =>
    refine exP2 hz.to ?_; rintro M' g' r'
    refine ⟨r', ?_⟩
    have g₀ : Go c [] P M ⟨hp, g, dr, t, os⟩ (M ++ [hp.objs.size]) (σ ++ [.dict [] []]) ⟨(hp.push emptyDict).push (instObj C hp.objs.size), g, dr, t, os⟩ := ⟨S₁, X₁, rfl, rfl⟩
    exact .of (g₀.trans g') (self.mono g'.ex.mono0)
  | _ => exact hz.elim
end
end
section
structure FnEnt (c : Cx) (a : Addr) (f : Fn) : Prop where
  keep : keepIn c.K (.ref a) = true
  is : ∃ (o : Obj) (fd : FuncData) (body : List Stmt) (gl : Str → Option Value) (mt : Str → Nat → Option (Addr × Addr)) (mu : List Pos) (ats : List Str) (dv : List Value), c.K.lookup a = some o ∧ o.data = .func fd ∧ fnOk fd = true ∧ fd.body = .stmts body ∧ codeIn c.K fd.code fd.qualname = true ∧
    TOk c (fnTb fd gl mt mu ats) ∧ (∀ M P h, VRs c M P h f.dflt dv) ∧ (∀ (s : Shared) (vs : List Value), c.K.In s.heap → vs.length + dv.length = (psOf fd).length → BindsTo s fd ⟨vs, []⟩ ((psOf fd).zip (vs ++ dv))) ∧
    f.np = (psOf fd).length ∧ f.body = body.map (trS 64 (fnTb fd gl mt mu ats))
noncomputable def mkF (C : Addr) (F : Fun) : Fun := fun args σ => (F (.inst C σ.length :: args) (σ ++ [.dict [] []])).bind fun p => match p.1 with
  | .none => some (.inst C σ.length, p.2)
  | _ => none
noncomputable def step (fs : List (Addr × Fn)) (cs : List (Addr × Addr × Fn)) (H : Hd) : Hd := fun a args σ =>
  match fs.lookup a with
  | some f => runF H f args σ
  | none => match cs.lookup a with
    | some (_, f) => mkF a (runF H f) args σ
    | none => none
noncomputable def Hk (fs : List (Addr × Fn)) (cs : List (Addr × Addr × Fn)) : Nat → Hd
  | 0 => fun _ _ _ => none
  | k + 1 => step fs cs (Hk fs cs k)
theorem mem_of_look {α : Type} : ∀ {l : List (Addr × α)} {n : Addr} {c : α}, l.lookup n = some c → (n, c) ∈ l
  | (k, v) :: r, n, c, h => by
    rw [List.lookup_cons] at h
    cases hb : n == k with
    | true => rw [hb] at h; cases h; rw [beq_iff_eq.mp hb]; exact List.mem_cons_self
    | false => rw [hb] at h; exact List.mem_cons_of_mem _ (mem_of_look h)
section
variable {c : Cx} {A : Around} {P M : List Addr} {σ σ' : Sg} {s : Shared} {d : DV} {H : Hd} {k : Nat}
theorem ent_call (hs : HS c k H) (Kin : c.K.In c.h₀) {a : Addr} {f : Fn} (F : FnEnt c a f) {args : List DV} {vs : List Value} (e : runF H f args σ = some (d, σ'))
    (hh : A.handled = none) (hdp : A.depth + 3 * k + 21 < recursionLimit) (hu : A.units + 60 * k + 303 < cLine) (S : St c P M σ s.heap) (r : VRs c M P s.heap args vs) :
    CC c.M A (.call (.ref a) ⟨vs, []⟩) (fun f s' => match f with | .ret v => Ev c [] P M s σ' d v s' | _ => False) s := by
  refine byG fun GG kk => ?_
  obtain ⟨_, o, fd, body, gl, mt, mu, ats, dv, h1, h2, h3, h4, h5, h6, h7, h8, h9, h10⟩ := F
  obtain ⟨np, nl, dflt, bd⟩ := f
  refine kk ?_
  clear kk GG
  dsimp only at h7 h9 h10
  subst h9 h10
  exact fn_call hs Kin h1 h2 h3 h4 h5 h6 h7 h8 e hh hdp hu S r
theorem HS_step (hs : HS c k H) (Kin : c.K.In c.h₀) {fs : List (Addr × Fn)} {cs : List (Addr × Addr × Fn)} (hfs : ∀ p ∈ fs, FnEnt c p.1 p.2) (hcs : ∀ p ∈ cs, p.1 ∈ c.cls ∧ keepIn c.K (.ref p.1) = true ∧ clsOk c.K p.1 p.2.1 = true ∧ FnEnt c p.2.1 p.2.2) :
    HS c (k + 1) (step fs cs H) where
  keep := fun a args σ r e => by
    unfold step at e
    split at e
    · rename_i f hf; exact (hfs _ (mem_of_look hf)).keep
    · split at e
      · rename_i f F hf; exact (hcs _ (mem_of_look hf)).2.1
      · exact deadP e
  run := fun a args σ d σ' e A P M s vs R S r => by
    have hdp := R.dp
    have hu := R.un
    unfold step at e
    split at e
    · rename_i f hf
      exact W.call (ent_call hs Kin (hfs _ (mem_of_look hf)) e R.hh (by lia) (by lia) S r)
    · split at e
      · rename_i f F hf
        refine byG fun GG kk => ?_
        refine andP4 (hcs _ (mem_of_look hf)) ?_; rintro q1 q2 q3 q4
        refine kk ?_
        clear kk GG
        dsimp only at q1 q2 q3 q4
        refine bndP e ?_; clear e; rintro d₁ σ₁ e1 e2
        dsimp only at e2
        split at e2
        · first | exact deadP e2 | (refine spP e2 ?_; clear e2; rintro rfl rfl) | (refine smP e2 ?_; clear e2; rintro rfl) | cases e2
          refine W.call (cls_call Kin q1 q3 (F := runF H F) e1 (fun P M s vs S r => ?_) S r)
          refine andP3 (under_tc (A := A) (C := a) (rest := vs.tail)) ?_; rintro u1 u2 u3
          exact ent_call hs Kin q4 e1 (u1.trans R.hh) (by lia) (by lia) S r
        · exact deadP e2
      · exact deadP e
theorem HS_all (Kin : c.K.In c.h₀) {fs : List (Addr × Fn)} {cs : List (Addr × Addr × Fn)} (hfs : ∀ p ∈ fs, FnEnt c p.1 p.2) (hcs : ∀ p ∈ cs, p.1 ∈ c.cls ∧ keepIn c.K (.ref p.1) = true ∧ clsOk c.K p.1 p.2.1 = true ∧ FnEnt c p.2.1 p.2.2) :
    ∀ k, HS c k (Hk fs cs k)
  | 0 => ⟨(fun _ _ _ _ e => by cases e), (fun _ _ _ _ _ e => by cases e)⟩
  | k + 1 => HS_step (HS_all Kin hfs hcs k) Kin hfs hcs
end
end
section
noncomputable def gMain : List (Str × Value) := ([("WallFault", 31), ("Misused", 44), ("LeftOut", 56), ("needs_of", 65), ("needs_in", 72), ("field_named", 79), ("is_worked", 86), ("field_under", 93), ("size_of", 100), ("order_of", 107), ("parts_of", 114), ("number_of", 121), ("octets_of", 126), ("turned", 131), ("host_octets", 138), ("host_order", 145), ("pad4", 152), ("bits_of", 159), ("Rowing", 176), ("slots_of", 187), ("const", 194), ("turn_row", 201), ("field_row", 208), ("put_needs", 215), ("cut_row", 222), ("load_field", 229), ("bits_row", 236), ("shift_rows", 243), ("load", 250), ("load_hash", 257), ("load_key", 264), ("new_meta", 271), ("Packet", 288), ("family_of", 299), ("base_of", 306), ("part", 313), ("field_bits", 320), ("Scene", 338), ("needs_met", 349), ("width_of", 356), ("read_by", 363), ("masked", 370), ("value_of", 377), ("meta_value", 384), ("read_payload", 391), ("read_meta", 398), ("Regs", 429), ("op_bitwise", 440), ("op_shift", 447), ("op_byteorder", 454), ("put_number", 461), ("op_payload", 468), ("op_meta", 475), ("_law_draw", 482), ("_law_told", 489), ("_law_fields", 496), ("_law_worked", 503), ("_law_due", 508), ("_law_octets", 513), ("_law_run", 520), ("_law_scene", 527), ("_law_left", 532), ("law", 537)] : List (String × Nat)).map fun p => (Str.ofString p.1, .ref p.2)
noncomputable def gBoot : List (Str × Value) := ([("len", .builtin "len"), ("sum", .builtin "sum"), ("max", .builtin "max"), ("str", .type "str"), ("bytes", .type "bytes"), ("bytearray", .type "bytearray"), ("list", .type "list"), ("tuple", .type "tuple"), ("range", .type "range"), ("enumerate", .type "enumerate"), ("zip", .type "zip")] : List (String × Value)).map fun p => (Str.ofString p.1, p.2)
noncomputable def glo (x : Str) : Option Value := match gMain.lookup x with
  | some v => some v
  | none => gBoot.lookup x
noncomputable def mth (x : Str) (n : Nat) : Option (Addr × Addr) := if n = 2 then (if x = "get" then some (429, 419) else if x = "put" then some (429, 426) else none) else none
noncomputable def muts : List Pos := [⟨92, 20, 92, 22⟩, ⟨94, 21, 94, 23⟩, ⟨195, 10, 195, 12⟩, ⟨375, 13, 375, 111⟩, ⟨449, 12, 449, 49⟩, ⟨456, 16, 456, 18⟩, ⟨463, 18, 463, 20⟩, ⟨462, 22, 462, 73⟩]
noncomputable def atts : List Str := (["why", "at", "fields", "family", "order", "prefix", "rows", "sets", "known", "makers", "flags", "data", "link", "kind", "l4", "off", "place", "meta", "packet", "now", "hook", "talk", "state", "is_reply", "talks", "objects", "readers", "doers", "ops", "tools", "log", "replies", "steps", "homes", "octets"] : List String).map Str.ofString
end
section
noncomputable def dn (n : Nat) : DV := .int n
noncomputable def f_needs_of : Fn := ⟨1, 3, [], [
  .asg (.nm 1) (.dct false ["ether", "th", "vlan", "arp", "ip", "ip6", "tcp", "udp", "icmp", "icmpv6"] [(.tup []), (.tup []), (.tup [(.tup [(.k (.str "ether type")), (.k (dn 33024))])]), (.tup [(.tup [(.k (.str "meta protocol")), (.k (dn 2054))])]), (.tup [(.tup [(.k (.str "meta nfproto")), (.k (dn 2))])]), (.tup [(.tup [(.k (.str "meta nfproto")), (.k (dn 10))])]), (.tup [(.tup [(.k (.str "meta l4proto")), (.k (dn 6))])]), (.tup [(.tup [(.k (.str "meta l4proto")), (.k (dn 17))])]), (.tup [(.tup [(.k (.str "meta nfproto")), (.k (dn 2))]), (.tup [(.k (.str "meta l4proto")), (.k (dn 1))])]), (.tup [(.tup [(.k (.str "meta nfproto")), (.k (dn 10))]), (.tup [(.k (.str "meta l4proto")), (.k (dn 58))])])]),
  .ifS (.cmp .NotIn (.v 0) (.v 1)) [
    .ex .stk] [
],
  .ret (some (.sub (.v 1) (.v 0)))]⟩
noncomputable def f_needs_in : Fn := ⟨2, 4, [], [
  .asg (.nm 2) (.lst false []),
  .for_ [3] .seq (.call (.g (.ref 65)) [(.v 1)]) [
    .ifS (.and (.cmp .Eq (.v 0) (.k (.str "ip"))) (.cmp .Eq (.v 3) (.tup [(.k (.str "meta nfproto")), (.k (dn 2))]))) [
      .cont] [
],
    .ifS (.and (.cmp .Eq (.v 0) (.k (.str "ip6"))) (.cmp .Eq (.v 3) (.tup [(.k (.str "meta nfproto")), (.k (dn 10))]))) [
      .cont] [
],
    .ex (.app (.v 2) (.v 3))],
  .ret (some (.prim false .tuple [(.v 2)]))]⟩
noncomputable def f_field_named : Fn := ⟨2, 2, [], [
  .ifS (.cmp .NotIn (.v 1) (.v 0)) [
    .ex .stk] [
],
  .ret (some (.sub (.v 0) (.v 1)))]⟩
noncomputable def f_is_worked : Fn := ⟨1, 2, [], [
  .ret (some (.cmp .In (.sub (.v 0) (.k (dn 0))) (.tup [(.k (.str "mask")), (.k (.str "or")), (.k (.str "xor")), (.k (.str "shl")), (.k (.str "shr"))])))]⟩
noncomputable def f_field_under : Fn := ⟨3, 2, [], [
  .whl (.call (.g (.ref 86)) [(.v 1)]) [
    .asg (.nm 1) (.sub (.v 1) (.k (dn 1)))],
  .ifS (.cmp .Eq (.sub (.v 1) (.k (dn 0))) (.k (.str "hash"))) [
    .ret (some (.k .none))] [
],
  .ifS (.cmp .NotEq (.sub (.v 1) (.k (dn 0))) (.k (.str "field"))) [
    .ex .stk] [
],
  .ret (some (.call (.g (.ref 79)) [(.v 0), (.sub (.v 1) (.k (dn 1)))]))]⟩
noncomputable def f_size_of : Fn := ⟨2, 4, [], [
  .asg (.nm 2) (.call (.g (.ref 93)) [(.v 0), (.v 1), (.k (.str "size"))]),
  .ifS (.cmp .Is (.v 2) (.k .none)) [
    .ret (some (.k (dn 4)))] [
],
  .asg (.nm 3) (.ite (.cmp .Eq (.sub (.v 2) (.k (dn 0))) (.k (.str "payload"))) (.bin false .Mod (.sub (.sub (.v 2) (.k (dn 4))) (.k (dn 2))) (.k (dn 8))) (.k (dn 0))),
  .ret (some (.bin false .FloorDiv (.bin false .Add (.bin false .Add (.v 3) (.sub (.v 2) (.k (dn 2)))) (.k (dn 7))) (.k (dn 8))))]⟩
noncomputable def f_order_of : Fn := ⟨2, 3, [], [
  .asg (.nm 2) (.call (.g (.ref 93)) [(.v 0), (.v 1), (.k (.str "order"))]),
  .ret (some (.ite (.cmp .Is (.v 2) (.k .none)) (.k (.str "host")) (.sub (.v 2) (.k (dn 3)))))]⟩
noncomputable def f_number_of : Fn := ⟨1, 4, [], [
  .asg (.nm 1) (.k (dn 0)),
  .for_ [2] .seq (.v 0) [
    .asg (.nm 1) (.bin false .BitOr (.bin false .LShift (.v 1) (.k (dn 8))) (.v 2))],
  .ret (some (.v 1))]⟩
noncomputable def f_octets_of : Fn := ⟨2, 2, [], [
  .ifS (.or (.cmp .Lt (.v 0) (.k (dn 0))) (.cmp .NotEq (.bin false .RShift (.v 0) (.bin false .Mult (.k (dn 8)) (.v 1))) (.k (dn 0)))) [
    .ex .stk] [
],
  .ret (some (.prim false .bytes [(.comp .range (.v 1) [2] (.bin false .BitAnd (.bin false .RShift (.v 0) (.bin false .Mult (.k (dn 8)) (.bin false .Sub (.bin false .Sub (.v 1) (.k (dn 1))) (.v 2)))) (.k (dn 255))))]))]⟩
noncomputable def f_turned : Fn := ⟨1, 3, [], [
  .asg (.nm 1) (.bin false .Sub (.prim false .len [(.v 0)]) (.k (dn 1))),
  .ret (some (.prim false .bytes [(.comp .range (.bin false .Add (.v 1) (.k (dn 1))) [2] (.sub (.v 0) (.bin false .Sub (.v 1) (.v 2))))]))]⟩
noncomputable def f_host_octets : Fn := ⟨3, 2, [], [
  .ifS (.cmp .Eq (.v 2) (.k (.str "big"))) [
    .ret (some (.call (.g (.ref 126)) [(.v 0), (.v 1)]))] [
],
  .ifS (.cmp .Eq (.v 2) (.k (.str "little"))) [
    .ret (some (.call (.g (.ref 131)) [(.call (.g (.ref 126)) [(.v 0), (.v 1)])]))] [
],
  .ex .stk]⟩
noncomputable def f_host_order : Fn := ⟨2, 2, [], [
  .ret (some (.ite (.cmp .Eq (.v 0) (.k (.str "host"))) (.v 1) (.v 0)))]⟩
noncomputable def f_pad4 : Fn := ⟨1, 2, [], [
  .ret (some (.bin false .Add (.prim false .bytes [(.v 0)]) (.bin false .Mult (.k (.bytes #[0])) (.bin false .Mod (.neg (.prim false .len [(.v 0)])) (.k (dn 4))))))]⟩
noncomputable def f_bits_of : Fn := ⟨3, 5, [], [
  .asg (.nm 3) (.bin false .FloorDiv (.v 1) (.k (dn 8))),
  .asg (.nm 4) (.bin false .FloorDiv (.bin false .Add (.bin false .Add (.v 1) (.v 2)) (.k (dn 7))) (.k (dn 8))),
  .ifS (.cmp .Gt (.v 4) (.prim false .len [(.v 0)])) [
    .ret (some (.k .none))] [
],
  .asg (.nm 5) (.bin false .Sub (.bin false .Sub (.bin false .Mult (.k (dn 8)) (.v 4)) (.v 1)) (.v 2)),
  .ret (some (.bin false .BitAnd (.bin false .RShift (.call (.g (.ref 121)) [(.sl (.v 0) (some (.v 3)) (some (.v 4)) none)]) (.v 5)) (.bin false .Sub (.bin false .LShift (.k (dn 1)) (.v 2)) (.k (dn 1)))))]⟩
noncomputable def f_Rowing_init__ : Fn := ⟨5, 2, [], [
  .asg (.at (.v 0) "fields") (.v 1),
  .asg (.at (.v 0) "family") (.v 2),
  .asg (.at (.v 0) "order") (.v 3),
  .asg (.at (.v 0) "prefix") (.v 4),
  .asg (.at (.v 0) "rows") (.lst true []),
  .asg (.at (.v 0) "sets") (.dct false [] []),
  .asg (.at (.v 0) "known") (.dct true [] []),
  .asg (.at (.v 0) "makers") (.dct false [] []),
  .asg (.at (.v 0) "flags") (.dct false [] [])]⟩
noncomputable def f_const : Fn := ⟨4, 2, [], [
  .ret (some (.call (.g (.ref 138)) [(.v 1), (.v 2), (.call (.g (.ref 145)) [(.v 3), (.attr (.v 0) "order")])]))]⟩
noncomputable def f_turn_row : Fn := ⟨3, 2, [], [
  .ex (.app (.attr (.v 0) "rows") (.tup [(.k (.str "byteorder")), (.v 1), (.v 1), (.v 2)]))]⟩
noncomputable def f_field_row : Fn := ⟨3, 8, [], [
  .asgs false [(.nm 3), (.nm 4), (.nm 5), (.nm 6), (.nm 7)] (.call (.g (.ref 79)) [(.attr (.v 0) "fields"), (.v 2)]),
  .asg (.nm 8) (.call (.g (.ref 100)) [(.attr (.v 0) "fields"), (.tup [(.k (.str "field")), (.v 2)])]),
  .ifS (.cmp .Eq (.v 3) (.k (.str "meta"))) [
    .ex (.app (.attr (.v 0) "rows") (.tup [(.k (.str "meta")), (.v 1), (.v 7), (.v 8), (.v 6)]))] [
    .ifS (.cmp .Eq (.v 3) (.k (.str "ct"))) [
      .ex (.app (.attr (.v 0) "rows") (.tup [(.k (.str "ct")), (.v 1), (.sub (.v 7) (.k (dn 0))), (.sub (.v 7) (.k (dn 1))), (.v 8), (.v 6)]))] [
      .ex (.app (.attr (.v 0) "rows") (.tup [(.k (.str "payload")), (.v 1), (.sub (.v 7) (.k (dn 1))), (.bin false .FloorDiv (.sub (.v 7) (.k (dn 2))) (.k (dn 8))), (.v 8)]))]],
  .ret (some (.v 8))]⟩
noncomputable def f_put_needs : Fn := ⟨3, 6, [], [
  .for_ [3, 4] .pairs (.call (.g (.ref 72)) [(.attr (.v 0) "family"), (.v 2)]) [
    .ifS (.cmp .Eq (.dget (.attr (.v 0) "known") (.v 3)) (.v 4)) [
      .cont] [
],
    .asg (.nm 5) (.call (.g (.ref 208)) [(.v 0), (.v 1), (.v 3)]),
    .asg (.nm 6) (.call (.g (.ref 107)) [(.attr (.v 0) "fields"), (.tup [(.k (.str "field")), (.v 3)])]),
    .ex (.app (.attr (.v 0) "rows") (.tup [(.k (.str "cmp")), (.k (.str "==")), (.v 1), (.call (.g (.ref 194)) [(.v 0), (.v 4), (.v 5), (.v 6)])])),
    .asg (.it (.attr (.v 0) "known") (.v 3)) (.v 4)]]⟩
noncomputable def f_cut_row : Fn := ⟨5, 4, [], [
  .asg (.nm 5) (.bin false .Sub (.bin false .Sub (.bin false .Mult (.k (dn 8)) (.v 2)) (.v 3)) (.v 4)),
  .ifS (.or (.cmp .Gt (.v 3) (.k (dn 0))) (.cmp .Gt (.v 5) (.k (dn 0)))) [
    .asg (.nm 6) (.bin false .LShift (.bin false .Sub (.bin false .LShift (.k (dn 1)) (.v 4)) (.k (dn 1))) (.v 5)),
    .ex (.app (.attr (.v 0) "rows") (.tup [(.k (.str "bitwise")), (.v 1), (.v 1), (.call (.g (.ref 194)) [(.v 0), (.v 6), (.v 2), (.k (.str "big"))]), (.call (.g (.ref 194)) [(.v 0), (.k (dn 0)), (.v 2), (.k (.str "big"))])]))] [
],
  .ifS (.cmp .Gt (.v 5) (.k (dn 0))) [
    .ex (.app (.attr (.v 0) "rows") (.tup [(.k (.str "shift")), (.v 1), (.v 1), (.v 2), (.k (.str "right")), (.v 5)]))] [
]]⟩
noncomputable def f_load_field : Fn := ⟨3, 8, [], [
  .asgs false [(.nm 3), (.nm 4), (.nm 5), (.nm 6), (.nm 7)] (.call (.g (.ref 79)) [(.attr (.v 0) "fields"), (.v 2)]),
  .ifS (.cmp .Eq (.v 3) (.k (.str "payload"))) [
    .ex (.call (.g (.ref 215)) [(.v 0), (.v 1), (.sub (.v 7) (.k (dn 0)))])] [
],
  .asg (.nm 8) (.call (.g (.ref 208)) [(.v 0), (.v 1), (.v 2)]),
  .ifS (.cmp .Eq (.v 3) (.k (.str "payload"))) [
    .ex (.call (.g (.ref 222)) [(.v 0), (.v 1), (.v 8), (.bin false .Mod (.sub (.v 7) (.k (dn 2))) (.k (dn 8))), (.v 5)])] [
]]⟩
noncomputable def f_bits_row : Fn := ⟨5, 7, [], [
  .asg (.nm 5) (.call (.g (.ref 100)) [(.attr (.v 0) "fields"), (.v 2)]),
  .asg (.nm 6) (.call (.g (.ref 107)) [(.attr (.v 0) "fields"), (.v 2)]),
  .asg (.nm 7) (.bin false .Sub (.bin false .LShift (.k (dn 1)) (.bin false .Mult (.k (dn 8)) (.v 5))) (.k (dn 1))),
  .asg (.nm 8) (.bin false .BitAnd (.v 4) (.v 7)),
  .asg (.nm 9) (.v 7),
  .ifS (.cmp .Eq (.v 3) (.k (.str "mask"))) [
    .asg (.nm 9) (.v 8),
    .asg (.nm 8) (.k (dn 0))] [
    .ifS (.cmp .Eq (.v 3) (.k (.str "or"))) [
      .asg (.nm 9) (.bin false .BitXor (.v 7) (.v 8))] [
]],
  .ex (.app (.attr (.v 0) "rows") (.tup [(.k (.str "bitwise")), (.v 1), (.v 1), (.call (.g (.ref 194)) [(.v 0), (.v 9), (.v 5), (.v 6)]), (.call (.g (.ref 194)) [(.v 0), (.v 8), (.v 5), (.v 6)])]))]⟩
noncomputable def f_shift_rows : Fn := ⟨3, 5, [], [
  .asg (.nm 3) (.call (.g (.ref 100)) [(.attr (.v 0) "fields"), (.v 2)]),
  .asg (.nm 4) (.ite (.cmp .Eq (.sub (.v 2) (.k (dn 0))) (.k (.str "shl"))) (.k (.str "left")) (.k (.str "right"))),
  .asg (.nm 5) (.cmp .Eq (.call (.g (.ref 107)) [(.attr (.v 0) "fields"), (.v 2)]) (.k (.str "host"))),
  .ifS (.v 5) [
    .ex (.call (.g (.ref 201)) [(.v 0), (.v 1), (.v 3)])] [
],
  .ex (.app (.attr (.v 0) "rows") (.tup [(.k (.str "shift")), (.v 1), (.v 1), (.v 3), (.v 4), (.sub (.v 2) (.k (dn 2)))])),
  .ifS (.v 5) [
    .ex (.call (.g (.ref 201)) [(.v 0), (.v 1), (.v 3)])] [
]]⟩
noncomputable def f_load : Fn := ⟨3, 3, [], [
  .asg (.nm 3) (.sub (.v 2) (.k (dn 0))),
  .ifS (.cmp .Eq (.v 3) (.k (.str "field"))) [
    .ex (.call (.g (.ref 229)) [(.v 0), (.v 1), (.sub (.v 2) (.k (dn 1)))])] [
    .ifS (.cmp .In (.v 3) (.tup [(.k (.str "mask")), (.k (.str "or")), (.k (.str "xor"))])) [
      .ex (.call (.g (.ref 250)) [(.v 0), (.v 1), (.sub (.v 2) (.k (dn 1)))]),
      .ex (.call (.g (.ref 236)) [(.v 0), (.v 1), (.v 2), (.v 3), (.sub (.v 2) (.k (dn 2)))])] [
      .ifS (.cmp .In (.v 3) (.tup [(.k (.str "shl")), (.k (.str "shr"))])) [
        .ex (.call (.g (.ref 250)) [(.v 0), (.v 1), (.sub (.v 2) (.k (dn 1)))]),
        .ex (.call (.g (.ref 243)) [(.v 0), (.v 1), (.v 2)])] [
        .ifS (.cmp .Eq (.v 3) (.k (.str "hash"))) [
          .ex (.call (.g (.ref 257)) [(.v 0), (.v 1), (.v 2)])] [
          .ex .stk]]]]]⟩
noncomputable def f_new_meta : Fn := ⟨0, 4, [], [
  .asg (.nm 0) (.dct true [] []),
  .for_ [1] .seq (.tup [(.k (.str "mark")), (.k (.str "priority")), (.k (.str "iif")), (.k (.str "oif")), (.k (.str "iifname")), (.k (.str "oifname")), (.k (.str "pkttype"))]) [
    .asg (.it (.v 0) (.v 1)) (.k (dn 0))],
  .asg (.it (.v 0) (.k (.str "iiftype"))) (.k (dn 1)),
  .asg (.it (.v 0) (.k (.str "oiftype"))) (.k (dn 1)),
  .ret (some (.v 0))]⟩
noncomputable def f_Packet_init__ : Fn := ⟨4, 2, [], [
  .asg (.at (.v 0) "data") (.prim false .bytearray [(.v 1)]),
  .asg (.at (.v 0) "link") (.prim false .bytearray [(.v 3)]),
  .asg (.at (.v 0) "kind") (.v 2),
  .asg (.at (.v 0) "l4") (.neg (.k (dn 1))),
  .asg (.at (.v 0) "off") (.neg (.k (dn 1))),
  .asg (.at (.v 0) "place") (.k (dn 0)),
  .asg (.at (.v 0) "meta") (.call (.g (.ref 271)) [])]⟩
noncomputable def f_family_of : Fn := ⟨1, 2, [], [
  .ifS (.cmp .Eq (.attr (.v 0) "kind") (.k (dn 2048))) [
    .ret (some (.k (dn 2)))] [
],
  .ifS (.cmp .Eq (.attr (.v 0) "kind") (.k (dn 34525))) [
    .ret (some (.k (dn 10)))] [
],
  .ifS (.cmp .Eq (.attr (.v 0) "kind") (.k (dn 2054))) [
    .ret (some (.k (dn 3)))] [
],
  .ret (some (.k (dn 0)))]⟩
noncomputable def f_base_of : Fn := ⟨2, 2, [], [
  .ifS (.cmp .Eq (.v 1) (.k (.str "network"))) [
    .ret (some (.tup [(.attr (.v 0) "data"), (.k (dn 0))]))] [
],
  .ifS (.cmp .Eq (.v 1) (.k (.str "transport"))) [
    .ifS (.cmp .Lt (.attr (.v 0) "off") (.k (dn 0))) [
      .ret (some (.k .none))] [
],
    .ret (some (.tup [(.attr (.v 0) "data"), (.attr (.v 0) "off")]))] [
],
  .ifS (.cmp .NotEq (.v 1) (.k (.str "link"))) [
    .ex .stk] [
],
  .ifS (.cmp .Eq (.prim false .len [(.attr (.v 0) "link")]) (.k (dn 0))) [
    .ret (some (.k .none))] [
],
  .ret (some (.tup [(.attr (.v 0) "link"), (.k (dn 0))]))]⟩
noncomputable def f_part : Fn := ⟨4, 4, [], [
  .asg (.nm 4) (.call (.g (.ref 306)) [(.v 0), (.v 1)]),
  .ifS (.or (.cmp .Is (.v 4) (.k .none)) (.cmp .Lt (.v 2) (.k (dn 0)))) [
    .ret (some (.k .none))] [
],
  .asg (.nm 5) (.bin false .Add (.sub (.v 4) (.k (dn 1))) (.v 2)),
  .ifS (.cmp .Gt (.bin false .Add (.v 5) (.v 3)) (.prim false .len [(.sub (.v 4) (.k (dn 0)))])) [
    .ret (some (.k .none))] [
],
  .ret (some (.prim false .bytes [(.sl (.sub (.v 4) (.k (dn 0))) (some (.v 5)) (some (.bin false .Add (.v 5) (.v 3))) none)]))]⟩
noncomputable def f_field_bits : Fn := ⟨4, 3, [], [
  .asg (.nm 4) (.call (.g (.ref 306)) [(.v 0), (.v 1)]),
  .ifS (.or (.cmp .Is (.v 4) (.k .none)) (.cmp .Lt (.v 2) (.k (dn 0)))) [
    .ret (some (.k .none))] [
],
  .ret (some (.call (.g (.ref 159)) [(.sub (.v 4) (.k (dn 0))), (.bin false .Add (.bin false .Mult (.sub (.v 4) (.k (dn 1))) (.k (dn 8))) (.v 2)), (.v 3)]))]⟩
noncomputable def f_Scene_init__ : Fn := ⟨5, 2, [dn 0, .str "input"], [
  .asg (.at (.v 0) "packet") (.v 1),
  .asg (.at (.v 0) "now") (.v 3),
  .asg (.at (.v 0) "hook") (.v 4),
  .asg (.at (.v 0) "talk") (.k .none),
  .asg (.at (.v 0) "state") (.k (dn 1)),
  .asg (.at (.v 0) "is_reply") (.k (dn 0)),
  .asg (.at (.v 0) "talks") (.k .none),
  .asg (.at (.v 0) "sets") (.dct false [] []),
  .asg (.at (.v 0) "objects") (.dct false [] []),
  .asg (.at (.v 0) "fields") (.v 2),
  .asg (.at (.v 0) "readers") (.dct false [] []),
  .asg (.at (.v 0) "doers") (.dct false [] []),
  .asg (.at (.v 0) "ops") (.dct false [] []),
  .asg (.at (.v 0) "tools") (.dct false [] []),
  .asg (.at (.v 0) "order") (.k (.str "little")),
  .asg (.at (.v 0) "log") (.lst false []),
  .asg (.at (.v 0) "replies") (.lst false []),
  .asg (.at (.v 0) "steps") (.k .none),
  .asg (.at (.v 0) "homes") (.dct false [] [])]⟩
noncomputable def f_needs_met : Fn := ⟨2, 3, [], [
  .for_ [2] .seq (.call (.g (.ref 65)) [(.v 1)]) [
    .ifS (.cmp .NotEq (.call (.g (.ref 377)) [(.v 0), (.tup [(.k (.str "field")), (.sub (.v 2) (.k (dn 0)))])]) (.sub (.v 2) (.k (dn 1)))) [
      .ret (some (.k (.bool false)))] [
]],
  .ret (some (.k (.bool true)))]⟩
noncomputable def f_width_of : Fn := ⟨2, 2, [], [
  .ret (some (.call (.g (.ref 100)) [(.attr (.v 0) "fields"), (.v 1)]))]⟩
noncomputable def f_read_by : Fn := ⟨3, 3, [], [
  .asg (.nm 3) (.dget (.attr (.v 0) "readers") (.v 1)),
  .ifS (.cmp .Is (.v 3) (.k .none)) [
    .ex .stk] [
],
  .ret (some (.call (.v 3) [(.v 0), (.v 2)]))]⟩
noncomputable def f_masked : Fn := ⟨2, 5, [], [
  .asgs true [(.nm 2), (.nm 3), (.nm 4)] (.tup [(.sub (.v 1) (.k (dn 0))), (.sub (.v 1) (.k (dn 2))), (.call (.g (.ref 377)) [(.v 0), (.sub (.v 1) (.k (dn 1)))])]),
  .ifS (.cmp .Is (.v 4) (.k .none)) [
    .ret (some (.k .none))] [
],
  .ifS (.cmp .In (.v 2) (.tup [(.k (.str "mask")), (.k (.str "shr"))])) [
    .ret (some (.ite (.cmp .Eq (.v 2) (.k (.str "mask"))) (.bin false .BitAnd (.v 4) (.v 3)) (.bin false .RShift (.v 4) (.v 3))))] [
],
  .ifS (.cmp .Eq (.v 2) (.k (.str "shl"))) [
    .asg (.nm 4) (.bin false .LShift (.v 4) (.v 3))] [
    .asg (.nm 4) (.ite (.cmp .Eq (.v 2) (.k (.str "or"))) (.bin false .BitOr (.v 4) (.v 3)) (.bin false .BitXor (.v 4) (.v 3)))],
  .ret (some (.bin false .BitAnd (.v 4) (.bin false .Sub (.bin false .LShift (.k (dn 1)) (.bin false .Mult (.k (dn 8)) (.call (.g (.ref 356)) [(.v 0), (.v 1)]))) (.k (dn 1)))))]⟩
noncomputable def f_value_of : Fn := ⟨2, 4, [], [
  .asg (.nm 2) (.sub (.v 1) (.k (dn 0))),
  .ifS (.cmp .Eq (.v 2) (.k (.str "field"))) [
    .asg (.nm 3) (.dget (.attr (.v 0) "fields") (.sub (.v 1) (.k (dn 1)))),
    .ifS (.cmp .Is (.v 3) (.k .none)) [
      .ex .stk] [
],
    .ret (some (.call (.g (.ref 363)) [(.v 0), (.sub (.v 3) (.k (dn 0))), (.v 3)]))] [
],
  .ifS (.cmp .Eq (.v 2) (.k (.str "num"))) [
    .ret (some (.sub (.v 1) (.k (dn 1))))] [
],
  .ifS (.cmp .In (.v 2) (.tup [(.k (.str "mask")), (.k (.str "or")), (.k (.str "xor")), (.k (.str "shl")), (.k (.str "shr"))])) [
    .ret (some (.call (.g (.ref 370)) [(.v 0), (.v 1)]))] [
],
  .ret (some (.call (.g (.ref 363)) [(.v 0), (.v 2), (.v 1)]))]⟩
noncomputable def f_meta_value : Fn := ⟨2, 3, [], [
  .asg (.nm 2) (.attr (.v 0) "packet"),
  .ifS (.cmp .Eq (.v 1) (.k (.str "l4proto"))) [
    .ret (some (.ite (.cmp .Lt (.attr (.v 2) "l4") (.k (dn 0))) (.k .none) (.attr (.v 2) "l4")))] [
],
  .ifS (.cmp .Eq (.v 1) (.k (.str "nfproto"))) [
    .ret (some (.call (.g (.ref 299)) [(.v 2)]))] [
],
  .ifS (.cmp .In (.v 1) (.tup [(.k (.str "length")), (.k (.str "protocol"))])) [
    .ret (some (.ite (.cmp .Eq (.v 1) (.k (.str "length"))) (.prim false .len [(.attr (.v 2) "data")]) (.attr (.v 2) "kind")))] [
],
  .ret (some (.dget (.attr (.v 2) "meta") (.v 1)))]⟩
noncomputable def f_read_payload : Fn := ⟨2, 5, [], [
  .asgs false [(.nm 2), (.nm 3), (.nm 4)] (.sub (.v 1) (.k (dn 4))),
  .ifS (.not (.call (.g (.ref 349)) [(.v 0), (.v 2)])) [
    .ret (some (.k .none))] [
],
  .ret (some (.call (.g (.ref 320)) [(.attr (.v 0) "packet"), (.v 3), (.v 4), (.sub (.v 1) (.k (dn 2)))]))]⟩
noncomputable def f_read_meta : Fn := ⟨2, 2, [], [
  .ret (some (.call (.g (.ref 384)) [(.v 0), (.sub (.v 1) (.k (dn 4)))]))]⟩
noncomputable def f_Regs_init__ : Fn := ⟨1, 2, [], [
  .asg (.at (.v 0) "octets") (.prim false .bytearray [(.k (dn 64))])]⟩
noncomputable def f_Regs_get : Fn := ⟨3, 2, [], [
  .ifS (.or (.cmp .Lt (.v 1) (.k (dn 0))) (.cmp .Gt (.bin false .Add (.bin false .Mult (.k (dn 4)) (.v 1)) (.v 2)) (.k (dn 64)))) [
    .ex .stk] [
],
  .ret (some (.prim false .bytes [(.sl (.attr (.v 0) "octets") (some (.bin false .Mult (.k (dn 4)) (.v 1))) (some (.bin false .Add (.bin false .Mult (.k (dn 4)) (.v 1)) (.v 2))) none)]))]⟩
noncomputable def f_Regs_put : Fn := ⟨3, 3, [], [
  .asg (.nm 3) (.call (.g (.ref 152)) [(.v 2)]),
  .ifS (.or (.cmp .Lt (.v 1) (.k (dn 0))) (.cmp .Gt (.bin false .Add (.bin false .Mult (.k (dn 4)) (.v 1)) (.prim false .len [(.v 3)])) (.k (dn 64)))) [
    .ex .stk] [
],
  .asg (.sl (.attr (.v 0) "octets") (.bin false .Mult (.k (dn 4)) (.v 1)) (.bin false .Add (.bin false .Mult (.k (dn 4)) (.v 1)) (.prim false .len [(.v 3)]))) (.v 3)]⟩
noncomputable def f_op_bitwise : Fn := ⟨4, 4, [], [
  .asg (.nm 4) (.prim false .len [(.sub (.v 2) (.k (dn 3)))]),
  .asg (.nm 5) (.bin false .BitAnd (.call (.g (.ref 121)) [(.meth 429 419 "get" (.v 1) [(.sub (.v 2) (.k (dn 2))), (.v 4)])]) (.call (.g (.ref 121)) [(.sub (.v 2) (.k (dn 3)))])),
  .ex (.meth 429 426 "put" (.v 1) [(.sub (.v 2) (.k (dn 1))), (.call (.g (.ref 126)) [(.bin false .BitXor (.v 5) (.call (.g (.ref 121)) [(.sub (.v 2) (.k (dn 4)))])), (.v 4)])]),
  .ret (some (.k .none))]⟩
noncomputable def f_op_shift : Fn := ⟨4, 3, [], [
  .asg (.nm 4) (.call (.g (.ref 121)) [(.meth 429 419 "get" (.v 1) [(.sub (.v 2) (.k (dn 2))), (.sub (.v 2) (.k (dn 3)))])]),
  .ifS (.cmp .GtE (.sub (.v 2) (.k (dn 5))) (.bin false .Mult (.k (dn 8)) (.sub (.v 2) (.k (dn 3))))) [
    .asg (.nm 4) (.k (dn 0))] [
    .ifS (.cmp .Eq (.sub (.v 2) (.k (dn 4))) (.k (.str "left"))) [
      .asg (.nm 4) (.bin false .BitAnd (.bin false .LShift (.v 4) (.sub (.v 2) (.k (dn 5)))) (.bin false .Sub (.bin false .LShift (.k (dn 1)) (.bin false .Mult (.k (dn 8)) (.sub (.v 2) (.k (dn 3))))) (.k (dn 1))))] [
      .asg (.nm 4) (.bin false .RShift (.v 4) (.sub (.v 2) (.k (dn 5))))]],
  .ex (.meth 429 426 "put" (.v 1) [(.sub (.v 2) (.k (dn 1))), (.call (.g (.ref 126)) [(.v 4), (.sub (.v 2) (.k (dn 3)))])]),
  .ret (some (.k .none))]⟩
noncomputable def f_op_byteorder : Fn := ⟨4, 3, [], [
  .asg (.nm 4) (.call (.g (.ref 121)) [(.meth 429 419 "get" (.v 1) [(.sub (.v 2) (.k (dn 2))), (.sub (.v 2) (.k (dn 3)))])]),
  .ex (.meth 429 426 "put" (.v 1) [(.sub (.v 2) (.k (dn 1))), (.call (.g (.ref 138)) [(.v 4), (.sub (.v 2) (.k (dn 3))), (.attr (.v 0) "order")])]),
  .ret (some (.k .none))]⟩
noncomputable def f_put_number : Fn := ⟨6, 2, [], [
  .ifS (.cmp .Is (.v 3) (.k .none)) [
    .ret (some (.tup [(.k (.str "break")), (.k (.str ""))]))] [
],
  .ex (.meth 429 426 "put" (.v 1) [(.v 2), (.call (.g (.ref 138)) [(.v 3), (.v 4), (.call (.g (.ref 145)) [(.v 5), (.attr (.v 0) "order")])])]),
  .ret (some (.k .none))]⟩
noncomputable def f_op_payload : Fn := ⟨4, 3, [], [
  .asg (.nm 4) (.call (.g (.ref 313)) [(.attr (.v 0) "packet"), (.sub (.v 2) (.k (dn 2))), (.sub (.v 2) (.k (dn 3))), (.sub (.v 2) (.k (dn 4)))]),
  .ifS (.cmp .Is (.v 4) (.k .none)) [
    .ret (some (.tup [(.k (.str "break")), (.k (.str ""))]))] [
],
  .ex (.meth 429 426 "put" (.v 1) [(.sub (.v 2) (.k (dn 1))), (.v 4)]),
  .ret (some (.k .none))]⟩
noncomputable def f_op_meta : Fn := ⟨4, 2, [], [
  .ret (some (.call (.g (.ref 461)) [(.v 0), (.v 1), (.sub (.v 2) (.k (dn 1))), (.call (.g (.ref 384)) [(.v 0), (.sub (.v 2) (.k (dn 2)))]), (.sub (.v 2) (.k (dn 3))), (.sub (.v 2) (.k (dn 4)))]))]⟩
noncomputable def f_law_draw : Fn := ⟨2, 4, [], [
  .asg (.nm 2) (.ite (.cmp .Gt (.prim false .len [(.v 0)]) (.k (dn 1))) (.pop (.v 0) (.k (dn 1))) (.k (dn 0))),
  .asg (.nm 3) (.bin false .Mod (.bin false .Add (.v 2) (.sub (.v 0) (.k (dn 0)))) (.v 1)),
  .asg (.it (.v 0) (.k (dn 0))) (.bin false .FloorDiv (.sub (.v 0) (.k (dn 0))) (.v 1)),
  .ret (some (.v 3))]⟩
noncomputable def f_law_told : Fn := ⟨0, 2, [], [
  .ret (some (.lst false [(.lst false [(.k (dn 0)), (.k (dn 3)), (.k (dn 4)), (.k (dn 10)), (.k (dn 0)), (.k (dn 16)), (.k (dn 7)), (.k (dn 4))]), (.lst false [(.k (dn 0)), (.k (dn 2)), (.k (dn 1)), (.k (dn 0)), (.k (dn 0)), (.k (dn 5)), (.k (dn 1)), (.k (dn 0)), (.k (dn 0)), (.k (dn 12)), (.k (dn 0)), (.k (dn 1)), (.k (dn 1)), (.k (dn 0)), (.k (dn 0)), (.k (dn 12)), (.k (dn 1)), (.k (dn 0))]), (.lst false [(.k (dn 6)), (.k (dn 1)), (.k (dn 3)), (.k (dn 6)), (.k (dn 0)), (.k (dn 0)), (.k (dn 0)), (.k (dn 16715760)), (.k (dn 1)), (.k (dn 2)), (.k (dn 2)), (.k (dn 0)), (.k (dn 677)), (.k (dn 4)), (.k (dn 3)), (.k (dn 0)), (.k (dn 1)), (.k (dn 0)), (.k (dn 9)), (.k (dn 8)), (.k (dn 0)), (.k (dn 1)), (.k (dn 0)), (.k (dn 5))])]))]⟩
noncomputable def f_law_fields : Fn := ⟨2, 7, [], [
  .asg (.nm 2) (.dct true ["mark", "type"] [(.tup [(.k (.str "meta")), (.k (.str "mark")), (.k (dn 32)), (.k (.str "host")), (.k (.str "mark"))]), (.tup [(.k (.str "meta")), (.k (.str "integer")), (.k (dn 16)), (.k (.str "host")), (.k (.str "iiftype"))])]),
  .asg (.nm 3) (.call (.g (.ref 482)) [(.v 1), (.k (dn 40))]),
  .asg (.nm 4) (.v 3),
  .for_ [5] .range (.k (dn 5)) [
    .asg (.nm 6) (.bin false .Add (.k (dn 1)) (.call (.g (.ref 482)) [(.v 1), (.k (dn 17))])),
    .asg (.it (.v 2) (.bin false .Add (.k (.str "f")) (.prim false .str [(.v 5)]))) (.tup [(.k (.str "payload")), (.k (.str "integer")), (.v 6), (.k (.str "big")), (.tup [(.k (.str "th")), (.k (.str "network")), (.v 4)])]),
    .asg (.nm 4) (.bin false .Add (.v 4) (.v 6))],
  .asg (.it (.v 2) (.k (.str "all"))) (.tup [(.k (.str "payload")), (.k (.str "integer")), (.bin false .Sub (.v 4) (.v 3)), (.k (.str "big")), (.tup [(.k (.str "th")), (.k (.str "network")), (.v 3)])]),
  .asg (.it (.v 2) (.k (.str "end"))) (.tup [(.k (.str "payload")), (.k (.str "integer")), (.bin false .Add (.k (dn 2)) (.call (.g (.ref 482)) [(.v 1), (.k (dn 6))])), (.k (.str "big")), (.tup [(.k (.str "th")), (.k (.str "network")), (.bin false .Sub (.bin false .Mult (.k (dn 8)) (.prim false .len [(.v 0)])) (.k (dn 4)))])]),
  .ret (some (.v 2))]⟩
noncomputable def f_law_worked : Fn := ⟨1, 7, [], [
  .asg (.nm 1) (.tup [(.k (.str "field")), (.sub (.lst false [(.k (.str "f0")), (.k (.str "f1")), (.k (.str "f2")), (.k (.str "f3")), (.k (.str "f4")), (.k (.str "all")), (.k (.str "mark")), (.k (.str "type")), (.k (.str "end"))]) (.call (.g (.ref 482)) [(.v 0), (.k (dn 9))]))]),
  .for_ [2] .range (.bin false .Add (.k (dn 1)) (.call (.g (.ref 482)) [(.v 0), (.k (dn 3))])) [
    .asg (.nm 3) (.sub (.lst false [(.k (.str "mask")), (.k (.str "or")), (.k (.str "xor")), (.k (.str "shl")), (.k (.str "shr"))]) (.call (.g (.ref 482)) [(.v 0), (.k (dn 5))])),
    .asgs true [(.nm 4), (.nm 5)] (.tup [(.call (.g (.ref 482)) [(.v 0), (.k (dn 41))]), (.call (.g (.ref 482)) [(.v 0), (.bin false .Pow (.k (dn 2)) (.k (dn 70)))])]),
    .asg (.nm 1) (.tup [(.v 3), (.v 1), (.ite (.cmp .In (.v 3) (.lst false [(.k (.str "shl")), (.k (.str "shr"))])) (.v 4) (.v 5))])],
  .ret (some (.v 1))]⟩
noncomputable def f_law_due : Fn := ⟨4, 19, [], [
  .ifS (.cmp .Eq (.sub (.v 3) (.k (dn 0))) (.k (.str "field"))) [
    .asgs false [(.nm 4), (.nm 5), (.nm 6), (.nm 7), (.nm 8)] (.sub (.v 2) (.sub (.v 3) (.k (dn 1)))),
    .ifS (.cmp .Eq (.v 4) (.k (.str "meta"))) [
      .ret (some (.tup [(.v 7), (.bin false .FloorDiv (.v 6) (.k (dn 8))), (.sub (.v 1) (.v 8))]))] [
],
    .asgs true [(.nm 9), (.nm 10)] (.tup [(.sub (.v 8) (.k (dn 2))), (.bin false .Mult (.k (dn 8)) (.prim false .len [(.v 0)]))]),
    .ifS (.cmp .Gt (.bin false .Add (.v 9) (.v 6)) (.v 10)) [
      .ret (some (.tup [(.v 7), (.k (dn 0)), (.k .none)]))] [
],
    .asg (.nm 12) (.prim false .sum [(.comp .enum (.sl (.v 0) none none (some (.neg (.k (dn 1))))) [21, 22] (.bin false .Mult (.v 22) (.bin false .Pow (.k (dn 256)) (.v 21))))]),
    .ret (some (.tup [(.v 7), (.bin false .Sub (.bin false .FloorDiv (.bin false .Add (.bin false .Add (.v 9) (.v 6)) (.k (dn 7))) (.k (dn 8))) (.bin false .FloorDiv (.v 9) (.k (dn 8)))), (.bin false .Mod (.bin false .FloorDiv (.v 12) (.bin false .Pow (.k (dn 2)) (.bin false .Sub (.bin false .Sub (.v 10) (.v 9)) (.v 6)))) (.bin false .Pow (.k (dn 2)) (.v 6)))]))] [
],
  .asgs false [(.nm 13), (.nm 14), (.nm 15)] (.v 3),
  .asgs false [(.nm 7), (.nm 16), (.nm 17)] (.call (.g (.ref 508)) [(.v 0), (.v 1), (.v 2), (.v 14)]),
  .ifS (.cmp .Is (.v 17) (.k .none)) [
    .ret (some (.tup [(.v 7), (.v 16), (.k .none)]))] [
],
  .ifS (.cmp .In (.v 13) (.lst false [(.k (.str "shl")), (.k (.str "shr"))])) [
    .ret (some (.tup [(.v 7), (.v 16), (.ite (.cmp .Eq (.v 13) (.k (.str "shl"))) (.bin false .Mod (.bin false .Mult (.v 17) (.bin false .Pow (.k (dn 2)) (.v 15))) (.bin false .Pow (.k (dn 256)) (.v 16))) (.bin false .FloorDiv (.v 17) (.bin false .Pow (.k (dn 2)) (.v 15))))]))] [
],
  .asg (.nm 18) (.k (dn 0)),
  .for_ [11] .range (.bin false .Mult (.k (dn 8)) (.v 16)) [
    .asgs true [(.nm 19), (.nm 20)] (.tup [(.bin false .Mod (.bin false .FloorDiv (.v 17) (.bin false .Pow (.k (dn 2)) (.v 11))) (.k (dn 2))), (.bin false .Mod (.bin false .FloorDiv (.v 15) (.bin false .Pow (.k (dn 2)) (.v 11))) (.k (dn 2)))]),
    .asg (.nm 18) (.bin false .Add (.v 18) (.bin false .Mult (.bin false .Pow (.k (dn 2)) (.v 11)) (.sub (.dct false ["mask", "or", "xor"] [(.bin false .Mult (.v 19) (.v 20)), (.prim false .max [(.v 19), (.v 20)]), (.bin false .Mod (.bin false .Add (.v 19) (.v 20)) (.k (dn 2)))]) (.v 13))))],
  .ret (some (.tup [(.v 7), (.v 16), (.v 18)]))]⟩
noncomputable def f_law_octets : Fn := ⟨3, 3, [], [
  .asg (.nm 3) (.comp .range (.v 1) [4] (.bin false .Mod (.bin false .FloorDiv (.v 0) (.bin false .Pow (.k (dn 256)) (.v 4))) (.k (dn 256)))),
  .ret (some (.ite (.v 2) (.v 3) (.sl (.v 3) none none (some (.neg (.k (dn 1)))))))]⟩
noncomputable def f_law_run : Fn := ⟨3, 4, [], [
  .for_ [3] .seq (.v 2) [
    .asg (.nm 4) (.call (.sub (.attr (.v 0) "ops") (.sub (.v 3) (.k (dn 0)))) [(.v 0), (.v 1), (.v 3), (.k .none)]),
    .ifS (.cmp .IsNot (.v 4) (.k .none)) [
      .ret (some (.v 4))] [
]],
  .ret (some (.k .none))]⟩
noncomputable def f_law_scene : Fn := ⟨4, 4, [], [
  .asg (.nm 4) (.call (.g (.ref 288)) [(.prim false .bytes [(.v 0)]), (.k (dn 2048)), (.k (.bytes #[]))]),
  .asgs false [(.it (.attr (.v 4) "meta") (.k (.str "mark"))), (.it (.attr (.v 4) "meta") (.k (.str "iiftype")))] (.tup [(.sub (.v 1) (.k (.str "mark"))), (.sub (.v 1) (.k (.str "iiftype")))]),
  .asg (.nm 5) (.call (.g (.ref 338)) [(.v 4), (.v 2)]),
  .asg (.at (.v 5) "order") (.v 3),
  .asg (.at (.v 5) "readers") (.dct false ["payload", "meta"] [(.g (.ref 391)), (.g (.ref 398))]),
  .asg (.at (.v 5) "ops") (.dct false ["payload", "meta", "bitwise", "shift", "byteorder"] [(.g (.ref 468)), (.g (.ref 475)), (.g (.ref 440)), (.g (.ref 447)), (.g (.ref 454))]),
  .ret (some (.v 5))]⟩
noncomputable def f_law_left : Fn := ⟨6, 11, [], [
  .asgs false [(.nm 6), (.nm 7), (.nm 8)] (.v 5),
  .asgs true [(.nm 9), (.nm 10)] (.tup [(.prim false .len [(.attr (.v 1) "rows")]), (.prim false .list [(.attr (.v 2) "octets")])]),
  .ex (.call (.g (.ref 250)) [(.v 1), (.v 3), (.v 4)]),
  .asg (.nm 11) (.call (.g (.ref 520)) [(.v 0), (.v 2), (.sl (.attr (.v 1) "rows") (some (.v 9)) none none)]),
  .ifS (.cmp .NotEq (.call (.g (.ref 377)) [(.v 0), (.v 4)]) (.v 8)) [
    .ret (some (.k (.str "wrong")))] [
],
  .ifS (.cmp .Is (.v 8) (.k .none)) [
    .ret (some (.ite (.and (.cmp .Eq (.v 11) (.tup [(.k (.str "break")), (.k (.str ""))])) (.cmp .Eq (.prim false .list [(.attr (.v 2) "octets")]) (.v 10))) (.k .none) (.k (.str "wrong"))))] [
],
  .asg (.nm 12) (.and (.cmp .Eq (.v 6) (.k (.str "host"))) (.cmp .Eq (.attr (.v 0) "order") (.k (.str "little")))),
  .asg (.nm 13) (.call (.g (.ref 513)) [(.v 8), (.v 7), (.v 12)]),
  .asg (.nm 13) (.bin false .Add (.v 13) (.bin false .Mult (.lst false [(.k (dn 0))]) (.bin false .Mod (.neg (.v 7)) (.k (dn 4))))),
  .ifS (.or (.cmp .IsNot (.v 11) (.k .none)) (.cmp .NotEq (.prim false .list [(.attr (.v 2) "octets")]) (.bin false .Add (.bin false .Add (.sl (.v 10) none (some (.bin false .Mult (.k (dn 4)) (.v 3))) none) (.v 13)) (.sl (.v 10) (some (.bin false .Add (.bin false .Mult (.k (dn 4)) (.v 3)) (.prim false .len [(.v 13)]))) none none)))) [
    .ret (some (.k (.str "wrong")))] [
],
  .asg (.nm 14) (.sl (.prim false .list [(.attr (.v 2) "octets")]) (some (.bin false .Mult (.k (dn 4)) (.v 3))) (some (.bin false .Add (.bin false .Mult (.k (dn 4)) (.v 3)) (.v 7))) none),
  .asg (.nm 14) (.ite (.v 12) (.sl (.v 14) none none (some (.neg (.k (dn 1))))) (.v 14)),
  .ret (some (.prim false .sum [(.comp .enum (.sl (.v 14) none none (some (.neg (.k (dn 1))))) [15, 16] (.bin false .Mult (.v 16) (.bin false .Pow (.k (dn 256)) (.v 15))))]))]⟩
noncomputable def f_law : Fn := ⟨1, 20, [], [
  .asg (.nm 0) (.sl (.v 0) none (some (.k (dn 63))) none),
  .asg (.nm 2) (.comp .enum (.call (.g (.ref 489)) []) [19, 20] (.bin true .Add (.lst false [(.bin false .Mod (.prim false .sum [(.sl (.v 0) (some (.v 19)) none (some (.k (dn 3))))]) (.bin false .Pow (.k (dn 10)) (.k (dn 60))))]) (.v 20))),
  .asg (.nm 3) (.bin false .Mod (.prim false .sum [(.v 0)]) (.bin false .Pow (.k (dn 10)) (.k (dn 60)))),
  .asg (.nm 4) (.comp .range (.bin false .Add (.k (dn 12)) (.call (.g (.ref 482)) [(.sub (.v 2) (.k (dn 0))), (.k (dn 9))])) [19] (.bin false .Mod (.bin false .Add (.bin false .Add (.bin false .Add (.bin false .Mult (.bin false .Mult (.k (dn 53)) (.v 19)) (.v 19)) (.bin false .Mult (.k (dn 90)) (.v 19))) (.k (dn 7))) (.bin false .FloorDiv (.v 3) (.bin false .Pow (.k (dn 7)) (.v 19)))) (.k (dn 256)))),
  .asg (.nm 5) (.dct false ["mark", "iiftype"] [(.bin false .Mod (.bin false .Add (.k (dn 317760772)) (.v 3)) (.bin false .Pow (.k (dn 2)) (.k (dn 32)))), (.bin false .Mod (.bin false .Add (.k (dn 280)) (.v 3)) (.bin false .Pow (.k (dn 2)) (.k (dn 16))))]),
  .asg (.nm 6) (.call (.g (.ref 496)) [(.v 4), (.sub (.v 2) (.k (dn 0)))]),
  .asg (.nm 7) (.comp .seq (.lst false [(.k (.str "f0")), (.k (.str "f1")), (.k (.str "f2")), (.k (.str "f3")), (.k (.str "f4")), (.k (.str "all"))]) [19] (.tup [(.k (.str "field")), (.v 19)])),
  .asg (.nm 7) (.bin false .Add (.v 7) (.comp .range (.k (dn 3)) [19] (.call (.g (.ref 503)) [(.sub (.v 2) (.k (dn 2)))]))),
  .asg (.nm 8) (.lst true []),
  .for_ [1] .range (.k (dn 9)) [
    .asgs true [(.nm 9), (.nm 10)] (.tup [(.cmp .Eq (.call (.g (.ref 482)) [(.sub (.v 2) (.k (dn 1))), (.k (dn 2))]) (.k (dn 1))), (.call (.g (.ref 482)) [(.sub (.v 2) (.k (dn 1))), (.k (dn 13))])]),
    .ex (.app (.v 8) (.ite (.and (.v 9) (.cmp .NotEq (.v 8) (.lst false []))) (.sub (.v 8) (.neg (.k (dn 1)))) (.v 10)))],
  .for_ [11] .seq (.lst false [(.k (.str "little")), (.k (.str "big"))]) [
    .asgs true [(.nm 12), (.nm 13), (.nm 14)] (.tup [(.call (.g (.ref 527)) [(.v 4), (.v 5), (.v 6), (.v 11)]), (.call (.g (.ref 176)) [(.v 6), (.k (.str "inet")), (.v 11), (.k (.str "p"))]), (.call (.g (.ref 429)) [])]),
    .asg (.at (.v 14) "octets") (.prim true .bytearray [(.comp .range (.k (dn 64)) [19] (.bin false .Mod (.bin false .Add (.bin false .Mult (.k (dn 7)) (.v 19)) (.k (dn 130))) (.k (dn 256))))]),
    .asg (.nm 15) (.lst true []),
    .forZ 10 16 (.v 8) (.v 7) [
      .asg (.nm 17) (.call (.g (.ref 532)) [(.v 12), (.v 13), (.v 14), (.v 10), (.v 16), (.call (.g (.ref 508)) [(.v 4), (.v 5), (.v 6), (.v 16)])]),
      .ifS (.cmp .Eq (.v 17) (.k (.str "wrong"))) [
        .ret (some (.k (.bool false)))] [
],
      .ex (.app (.v 15) (.v 17))],
    .ifS (.cmp .NotIn (.k .none) (.sl (.v 15) none (some (.k (dn 6))) none)) [
      .asg (.nm 18) (.k (dn 0)),
      .for_ [1] .range (.k (dn 5)) [
        .asg (.nm 18) (.bin false .Add (.bin false .Mult (.v 18) (.bin false .Pow (.k (dn 2)) (.sub (.sub (.v 6) (.bin false .Add (.k (.str "f")) (.prim false .str [(.v 1)]))) (.k (dn 2))))) (.sub (.v 15) (.v 1)))],
      .ifS (.cmp .NotEq (.v 18) (.sub (.v 15) (.k (dn 5)))) [
        .ret (some (.k (.bool false)))] [
]] [
]],
  .ret (some (.k (.bool true)))]⟩
end
section
noncomputable def fns : List (Addr × Fn) := [(65, f_needs_of), (72, f_needs_in), (79, f_field_named), (86, f_is_worked), (93, f_field_under), (100, f_size_of), (107, f_order_of), (121, f_number_of), (126, f_octets_of), (131, f_turned), (138, f_host_octets), (145, f_host_order), (152, f_pad4), (159, f_bits_of), (194, f_const), (201, f_turn_row), (208, f_field_row), (215, f_put_needs), (222, f_cut_row), (229, f_load_field), (236, f_bits_row), (243, f_shift_rows), (250, f_load), (271, f_new_meta), (299, f_family_of), (306, f_base_of), (313, f_part), (320, f_field_bits), (349, f_needs_met), (356, f_width_of), (363, f_read_by), (370, f_masked), (377, f_value_of), (384, f_meta_value), (391, f_read_payload), (398, f_read_meta), (419, f_Regs_get), (426, f_Regs_put), (440, f_op_bitwise), (447, f_op_shift), (454, f_op_byteorder), (461, f_put_number), (468, f_op_payload), (475, f_op_meta), (482, f_law_draw), (489, f_law_told), (496, f_law_fields), (503, f_law_worked), (508, f_law_due), (513, f_law_octets), (520, f_law_run), (527, f_law_scene), (532, f_law_left), (537, f_law)]
noncomputable def clss : List (Addr × Addr × Fn) := [(176, 173, f_Rowing_init__), (288, 285, f_Packet_init__), (338, 335, f_Scene_init__), (429, 412, f_Regs_init__)]
end
section
noncomputable abbrev caller : Ctx := ⟨.builtin "claim.caller" {}, none, none, [], none⟩
theorem caller_clean : Clean caller := ⟨by decide +kernel, fun _ h => nomatch h⟩
theorem thread_ends_W {prog : Program} {w : World} {t : Sem Fin} {s : Shared} {R : Result → Shared → Prop} (hreg : s.asleep)
    (h : W (model prog w) callerA t (fun fin s' => ∃ f, fin = .done f ∧ (R (.ok f) s' ∧ leftWithCleanup s'.gens = false)) s) :
    ∃ n r s' s'', runN (denote table) prog w n s ⟨t, .builtin "claim.caller" {}, default, []⟩ = .halted (outcomeOf r) s' ∧
      schedN (denote table) prog w n (.single s ⟨t, .builtin "claim.caller" {}, default, []⟩) = .halted (outcomeOf r) s' ∧ s'.forget = s''.forget ∧ R r s'' := by
  have h' : Sem.wp (model prog w) caller t (Sem.finPost (model prog w) caller fun r s' => R r s' ∧ leftWithCleanup s'.gens = false)
      (fun e _ s' => R (.error e) s' ∧ leftWithCleanup s'.gens = false) default s := by
    refine Sem.wp_mono (model prog w) caller t (fun fin p' s' q => ?_) (fun _ _ _ q => q.elim) default s (h caller default caller_in caller_clean)
    obtain ⟨f, rfl, hf⟩ := q
    exact hf
  refine byG fun GG kk => ?_
  obtain ⟨n, r, s₁, s₂, hs, hn, hfo, hR⟩ := wp_halts_full (M := model prog w) (R := R) hreg h'
  refine kk ?_
  clear kk GG
  exact ⟨n, r, s₂, s₁, hn, hs, hfo, hR⟩
theorem callFrom_of_specW {c : ClaimW} {tree : List Value → Sem Fin} {w : World} {s : Shared} {free : Addr → Prop} {gens : Prop} {kept : Heap → Prop} (hz : s.asleep) (hgens : s.gens = #[])
    (hspec : ∀ args, c.pre args = true → WData.layableAll args = true →
      ∀ ord : List DictEntry → List DictEntry, (∀ l, (ord l).Perm l) →
      ∃ vs s₁, layAllW c.records (classAt s.heap) w.params ord args s = some (vs, s₁) ∧
        W (model c.prog w) callerA (tree vs) (fun fin s' => ∃ f, fin = .done f ∧ (c.Ends s args vs s₁ (.ok f) s' ∧ s'.os = s.os ∧ AllBare s'.gens ∧ kept s'.heap)) s₁) :
    c.CallFrom (fun vs => ⟨tree vs, .builtin "claim.caller" {}, default, []⟩) w free gens kept s := by
  intro args hpre hlay ord hord
  refine byG fun GG kk => ?_
  obtain ⟨vs, s₁, hlaid, hcode⟩ := hspec args hpre hlay ord hord
  have hal := layAllW_rest _ _ _ hlaid
  obtain ⟨k, r, s', s'', hrun, hsched, hfo, hcase, hos, hkp⟩ := thread_ends_W (prog := c.prog) (w := w) (t := tree vs) (s := s₁)
    (R := fun r s' => c.Ends s args vs s₁ r s' ∧ s'.os = s.os ∧ kept s'.heap)
    (Shared.asleep_of_life hal.2.2.2 hz)
    (hcode.mono (by
      rintro fin s' ⟨f, e, h1, h2, h3, h4⟩
      exact ⟨f, e, ⟨h1, h2, h4⟩, leftWithCleanup_false_of_bare h3⟩))
  have eh := (Shared.forget_eq hfo).1
  have eo := (Shared.forget_eq hfo).2.2.2.1
  have hcase := hcase.congr eh
  have hkp : kept s'.heap := by first | exact eh ▸ hkp | (rw [eh] at hkp; exact hkp) | (rw [← eh] at hkp; exact hkp)
  rw [← eo] at hos
  have hlife : s'.heap.life = s.heap.life := (runN_life _ _ _ hrun).trans hal.2.2.2
  refine kk ⟨vs, s₁, hlaid, k, _, s', hsched, ?_, (fun _ i x hx => by rw [hgens] at hx; simp at hx), hkp, by rw [hlife], Shared.rest_eq hos⟩
  rcases hcase with ⟨v, rfl, d1, d2, d3, d4, d5⟩ | ⟨e, ob, cls, rfl, d1, d2, d3, d4, d5⟩
  · exact .inl ⟨v, rfl, d1, d2, d3, fun b o y _ => d4 b o y, d5⟩
  · exact .inr ⟨e, ob, cls, rfl, d1, d2, d3, d4, fun b o y _ => d5 b o y⟩
theorem open_anyM {r : RowW} {run : Value → List Value → Sem Value} {tree : List Value → Sem Fin} {q : Program} {loose defs kps : List Str} {writes : Bool} {Xt : Shared → Bool} {XP : (Str → Option Value) → Heap → Prop} {α : Type} {Yf : Shared → α} {Ya : World → α} {YP : World → Heap → Prop} {N : Nat}
    (left : LeftO r.prog q loose Xt Yf Ya N) (hY : ∀ w s, Yf s = Ya w → YP w s.heap) (hYk : ∀ w h h', YP w h → (∀ b o, h.get? b = some o → h'.get? b = some o) → YP w h') (hX : ∀ s, Xt s = true → XP (s.heap.nsMap mainGlobals) s.heap) (hXk : ∀ mg h h', XP mg h → (∀ b o, h.get? b = some o → h'.get? b = some o) → XP mg h')
    (hRf : ∀ s, Xt s = true → RecFacts r.records s.heap) (hwr : (!writes || r.records.isEmpty) = true) (ok : (chainsOk q && opensWell r.prog && (frees r && r.within.isEmpty)) = true) (hb : r.prog.bare) (hw : r.promised)
    (ht : ∀ vs (w : World) (s : Shared) mg f (Q : Fin → Shared → Prop), s.heap.Ns mainGlobals mg → mg r.name = some f → W (model r.prog w) callerA (run f vs) (fun v s' => Q (.done (.ret v)) s') s → W (model r.prog w) callerA (tree vs) Q s)
    (pin : ∀ w s, s.heap.isNs mainGlobals = true → Ground q loose [] XP w s (s.heap.nsMap mainGlobals) (s.heap.nsMap builtinsNs) s.heap → ∀ n ∈ defs, isTheDefsW r.prog s.heap n)
    (call : ∀ (w : World) (s₀ s₁ : Shared) (mg mb : Str → Option Value), Ground q loose r.records XP w s₀ mg mb s₁.heap → YP w s₁.heap → ∀ (args : List WData) (vs : List Value) (as : List Addr),
      r.claim.pre args = true → WData.layableAll args = true → Laid r.records w s₀ s₁ args vs as → sysModules < s₀.heap.objs.size → ∃ f, mg r.name = some f ∧
        W (model r.prog w) callerA (run f vs) (fun v s' => GoodWG r.claim (classAt s₀.heap) (ExcName.means s₀.heap) args s₁ (.ok (.ret v)) s') s₁) : r.claim.HoldsOpenBy (fun vs => ⟨tree vs, .builtin "claim.caller" {}, default, []⟩) defs kps writes := by
  refine byG fun GG kk => ?_
  obtain ⟨ok, k5⟩ := Bool.and_eq_true_iff.mp ok
  obtain ⟨hch, o1⟩ := Bool.and_eq_true_iff.mp ok
  obtain ⟨k5, k6⟩ := Bool.and_eq_true_iff.mp k5
  obtain ⟨hsame, hu, ha, hap, hm⟩ := frees_parts k5
  refine kk ?_
  clear kk GG
  refine ⟨⟨hb, o1, by show r.makers.map _ = []; rw [hm]; rfl⟩, hw.witness, fun w => ⟨(left.behind hX hch w).1, fun s' hs' => ?_⟩⟩
  refine byG fun GG kk => ?_
  obtain ⟨s₀, hf, hg0, s, hT, hz, hgens, hg, G00, y⟩ := (left.behind (XP := fun mg h => XP mg h ∧ RecFacts r.records h) (fun s hs => ⟨hX s hs, hRf s hs⟩) hch w).2 s' hs'
  refine kk ?_
  clear kk GG
  have G0 : Ground q loose [] XP w s (s.heap.nsMap mainGlobals) (s.heap.nsMap builtinsNs) s.heap := ⟨G00.T, G00.B, G00.D, G00.TE, G00.TD, G00.W, G00.X.1, G00.cls, G00.has, G00.apart, G00.once, G00.K⟩
  have RF := G00.X.2
  have hT' := hT
  refine ⟨s₀, hf, hg0, s, hT, pin w s hg G0, RF.1, RF.2.1, ?_⟩
  have hgens : s.gens = #[] := Array.eq_empty_of_size_eq_zero (beq_iff_eq.mp hgens)
  have G : Ground q loose r.records XP w s _ _ s.heap := RF.ground G0
  refine callFrom_of_specW (c := r.claim) hz hgens fun args hpre hlay ord hord => ?_
  obtain ⟨⟨vs, s₁⟩, hlaid⟩ := Option.isSome_iff_exists.mp (layAllW_isSome (P := w.params) (ord := ord) G.has args r.args s (pre_splitW hpre).1)
  have keeps := layAllW_keeps _ _ _ hlaid
  have hal := layAllW_rest _ _ _ hlaid
  refine byG fun GG kk => ?_
  obtain ⟨as, hrd, hin, hold⟩ := reads_layAllW hord _ _ _ hlaid hlay s₁.heap (fun _ _ e => e)
  refine kk ?_
  clear kk GG
  have L : Laid r.records w s s₁ args vs as := ⟨⟨ord, hord, hlaid⟩, hrd, hin, hold, keeps, hal.1.trans hgens, hal.2.2.1⟩
  have G₁ := G.keeps hXk keeps
  obtain ⟨f, hf, h⟩ := call w s s₁ _ _ G₁ (hYk _ _ _ (hY w s y) keeps) args vs as hpre hlay L G.low
  have hi := ident_freeW hu ha hap
  have hwi : r.claim.within = [] := List.isEmpty_iff.mp k6
  exact ⟨vs, s₁, hlaid, ht vs w s₁ _ f _ G₁.T.g hf (h.mono (fun v s' g => ⟨_, rfl, have z := g.laid (c := r.claim) hsame hwi hi L; ⟨z.1, z.2.1, z.2.2, fun q => ⟨namesKept_of hT' hg kps keeps g.2.1.old, noTable hwr q⟩⟩⟩))⟩
noncomputable abbrev WalkM (q : Program) (loose : List Str) (XP : (Str → Option Value) → Heap → Prop) (YP : World → Heap → Prop) (r : RowW) (d : DefRec) (kwd : List (Str × Expr)) (run : Value → List Value → Sem Value) : Prop :=
  ∀ (w : World) (s₀ s₁ : Shared) (mg mb : Str → Option Value), Ground q loose r.records XP w s₀ mg mb s₁.heap → YP w s₁.heap → ∀ (a : Addr) (o : Obj) (pm cd doc dV kV : Value), s₁.heap.get? a = some o →
    o.data = .func { Calls.docDef d.name d.params d.body d.scope pm cd doc with defaults := dV, kwdefaults := kV } → s₁.heap.CodeRec cd d.name → Dflts mg s₁.heap d.params kwd dV kV → mg d.name = some (.ref a) → s₁.gens = #[] →
    ∀ (args : List WData) (vals : List Value) (as : List Addr), r.claim.pre args = true → WData.layableAll args = true → ReadsAllW r.records (classAt s₀.heap) s₁.heap vals args as → WellAll w.params s₁.heap vals args → (∀ a ∈ as, (a == sysModules) = false) →
      W (model r.prog w) callerA (run (.ref a) vals) (fun v s' => GoodWG r.claim (classAt s₀.heap) (ExcName.means s₀.heap) args s₁ (.ok (.ret v)) s') s₁
theorem holds_openM {r : OpenRow} {q : Program} {loose : List Str} {Xt : Shared → Bool} {XP : (Str → Option Value) → Heap → Prop} {α : Type} {Yf : Shared → α} {Ya : World → α} {YP : World → Heap → Prop} {d : DefRec} {kwd : List (Str × Expr)} {N : Nat}
    (left : LeftO r.prog q loose Xt Yf Ya N) (hY : ∀ w s, Yf s = Ya w → YP w s.heap) (hYk : ∀ w h h', YP w h → (∀ b o, h.get? b = some o → h'.get? b = some o) → YP w h')
    (hX : ∀ s, Xt s = true → XP (s.heap.nsMap mainGlobals) s.heap) (hXk : ∀ mg h h', XP mg h → (∀ b o, h.get? b = some o → h'.get? b = some o) → XP mg h')
    (hdef : defOf q r.name = some (d, kwd)) (hp : r.prog.theDef r.name = some (d.params, d.body, d.scope)) (hk : kwWritten? d.params.kwonlyargs d.params.kw_defaults = some kwd) (hRf : ∀ s, Xt s = true → RecFacts r.records s.heap) (hwr : (!r.writes || r.records.isEmpty) = true)
    (k1 : r.wellSaid = true) (ok : (chainsOk q && opensWell r.prog && (frees r.toRowW && r.within.isEmpty)) = true) (hb : r.prog.bare) (hw : r.toRowW.promised)
    (call : WalkM q loose XP YP r.toRowW d kwd fun f vs => PySem.call f vs) : r.Holds := by
  refine ⟨k1, hw, open_anyM (r := r.toRowW) (run := fun f vs => PySem.call f vs) (tree := fun vs => do match ← nsGet mainNs r.name with
      | some f => do ret (← PySem.call f vs)
      | none => unsupported "claim.caller:no-such-global") left hY hYk hX hXk hRf hwr ok hb hw
    (fun vs w s mg f Q hg hf h => W.leaf (wpAny_nsGet hg (by rw [hf]; exact W.bind (h.mono (fun _ _ x => W.pure x)))))
    (fun w s hg G n hn => ?_) fun w s₀ s₁ mg mb G Y args vs as hpre hlay L low => ?_⟩
  · obtain rfl : n = r.name := by split at hn <;> simp_all
    exact pinned_of_view hg G hdef hp hk
  · refine byG fun GG kk => ?_
    obtain ⟨a, o, pm, cd, doc, dV, kV, h1, h2, h3, h4, h5⟩ := G.fn hdef
    refine kk ?_
    clear kk GG
    exact ⟨.ref a, h1, call w s₀ s₁ mg mb G Y a o pm cd doc dV kV h2 h3 h4 h5 (defOf_name hdef ▸ h1) L.gens args vs as hpre hlay L.reads L.well (L.low low)⟩
theorem LeftO.of_boot {p q : Program} {loose : List Str} {Xt : Shared → Bool} {α : Type} {Yf : Shared → α} {Ya : World → α} {N : Nat} {g0 : Bool} {m₀ : Nat} {ann : Option Value}
    (e : opening p = plainProg p.main.scope.names) (hN : Nat.ble 600 N = true) (f : ∀ s, fenceModules? p s = some s)
    (size : ∀ w : World, ((boot_heap w.params).isNs mainGlobals, (boot_heap w.params).objs.size, (boot_heap w.params).nsMap mainGlobals "__annotations__") = (true, m₀, ann))
    (run : ∀ (w : World) (os : OsState), (topRun treeTable p w m₀ ann N ⟨boot_heap w.params, Array.mk [], boot_drawn, boot_toks, os⟩ (topStub p)).map (fun s =>
      (staticsOk (importedModules p.main.body) (boot_heap w.params) s.heap && namesBound p s.heap && gensDone s && laidKept (boot_heap w.params) s.heap, openSeen q loose (importedModules p.main.body) Xt g0 s, Yf s)) = some (true, openGood q loose, Ya w)) : LeftO p q loose Xt Yf Ya N g0 := fun w => by
  refine byG fun GG kk => ?_
  obtain ⟨⟨h, gs, d, k, os⟩, e, e'⟩ := Option.map_eq_some_iff.mp (boot_open e hN f w)
  obtain ⟨rfl, rfl, rfl, rfl⟩ : h = boot_heap w.params ∧ gs = Array.mk [] ∧ d = boot_drawn ∧ k = boot_toks := by simpa using e'
  obtain ⟨z1, z2, z3⟩ : _ ∧ _ ∧ _ := by simpa only [Prod.mk.injEq] using size w
  obtain ⟨s', r, q⟩ := Option.map_eq_some_iff.mp (run w os)
  obtain ⟨l1, l2, l3⟩ : _ ∧ _ ∧ _ := by simpa only [Prod.mk.injEq] using q
  refine kk ?_
  clear kk GG
  have t : topFrom treeTable p w N ⟨boot_heap w.params, Array.mk [], boot_drawn, boot_toks, os⟩ = some s' := by
    unfold topFrom
    dsimp only
    rw [z1, z2, z3, r]
    show (match staticsOk (importedModules p.main.body) (boot_heap w.params) s'.heap && namesBound p s'.heap && gensDone s' && laidKept (boot_heap w.params) s'.heap with | true => _ | false => _) = _
    rw [l1]
  unfold openEnds
  rw [e]
  show (topFrom treeTable p w N _).map _ = _
  rw [t]
  exact congrArg some (Prod.ext l2 l3)
end
section
noncomputable def fdOf (K : Frag) (a : Addr) : FuncData := match K.lookup a with
  | some ⟨_, _, .func fd, _⟩ => fd
  | _ => { name := "", qualname := "", params := ⟨[], [], none, [], [], none, []⟩, body := .stmts [], scope := { kind := .function, names := [], isGenerator := false, isCoroutine := false }, globals := 0, closure := [], defaults := .none, kwdefaults := .none, code := .none }
noncomputable def isFunc (K : Frag) (a : Addr) : Bool := match K.lookup a with
  | some ⟨_, _, .func _, _⟩ => true
  | _ => false
noncomputable def bodyOf (fd : FuncData) : List Stmt := match fd.body with
  | .stmts b => b
  | _ => []
noncomputable def isStmts (fd : FuncData) : Bool := match fd.body with
  | .stmts _ => true
  | _ => false
noncomputable def plainP (fd : FuncData) : Bool := fd.params.posonlyargs.isEmpty && fd.params.vararg.isNone && fd.params.kwonlyargs.isEmpty && fd.params.kwarg.isNone
noncomputable def entOk (K : Frag) (a : Addr) (f : Fn) : Bool :=
  isFunc K a && fnOk (fdOf K a) && isStmts (fdOf K a) && codeIn K (fdOf K a).code (fdOf K a).qualname && plainP (fdOf K a) && f.np == (psOf (fdOf K a)).length && keepIn K (.ref a)
noncomputable def allCls : List Addr := [176, 288, 338, 429]
noncomputable def inits : List (Addr × Fn) := [(173, f_Rowing_init__), (285, f_Packet_init__), (412, f_Regs_init__)]
noncomputable def chkK (K : Frag) : Bool :=
  (gMain.all fun p => nsIn K mainGlobals p.1 == some (some p.2) && handedIn p.2) &&
  (gBoot.all fun p => nsIn K mainGlobals p.1 == some none && bootBuiltins p.1 == some p.2 && handedIn p.2 && p.1 != "__name__") &&
  (allCls.all fun C => atts.all fun x => attrOk K C x) && methOk K 429 419 "get" && methOk K 429 426 "put" &&
  ((fns ++ inits).all fun q => entOk K q.1 q.2) && entOk K 335 f_Scene_init__ && clss.all fun q => keepIn K (.ref q.1) && clsOk K q.1 q.2.1
noncomputable def bodyK (K : Frag) (a : Addr) : List IS := (bodyOf (fdOf K a)).map (trS 64 (fnTb (fdOf K a) glo mth muts atts))
noncomputable def initPs : List Str := (["self", "packet", "fields", "now", "hook"] : List String).map Str.ofString
noncomputable def seenK (K : Frag) : Bool × List (List IS × Value) × List IS × Value × List Str × Option Obj :=
  (chkK K, (fns ++ inits).map (fun q => (bodyK K q.1, (fdOf K q.1).defaults)), bodyK K 335, (fdOf K 335).defaults, psOf (fdOf K 335), K.lookup 328)
noncomputable def goodK : Bool × List (List IS × Value) × List IS × Value × List Str × Option Obj :=
  (true, (fns ++ inits).map (fun q => (q.2.body, .none)), f_Scene_init__.body, .ref 328, initPs, some ⟨.type "tuple", none, .seq #[.int 0 669, .str "input" 670] 0, #[]⟩)
structure Seen (K : Frag) : Prop where
  c1 : (gMain.all fun p => nsIn K mainGlobals p.1 == some (some p.2) && handedIn p.2) = true
  c2 : (gBoot.all fun p => nsIn K mainGlobals p.1 == some none && bootBuiltins p.1 == some p.2 && handedIn p.2 && p.1 != "__name__") = true
  c3 : ∀ C ∈ allCls, ∀ x ∈ atts, attrOk K C x = true
  c4 : methOk K 429 419 "get" = true
  c5 : methOk K 429 426 "put" = true
  c6 : ∀ q ∈ fns ++ inits, entOk K q.1 q.2 = true
  c7 : entOk K 335 f_Scene_init__ = true
  c8 : ∀ q ∈ clss, keepIn K (.ref q.1) = true ∧ clsOk K q.1 q.2.1 = true
  c9 : ∀ q ∈ fns ++ inits, bodyK K q.1 = q.2.body ∧ (fdOf K q.1).defaults = .none
  d1 : bodyK K 335 = f_Scene_init__.body
  d2 : (fdOf K 335).defaults = .ref 328
  d3 : psOf (fdOf K 335) = initPs
  d4 : K.lookup 328 = some ⟨.type "tuple", none, .seq #[.int 0 669, .str "input" 670] 0, #[]⟩
theorem seen_of {K : Frag} (e : seenK K = goodK) : Seen K := by
  obtain ⟨e1, e2, e3, e4, e5, e6⟩ : chkK K = true ∧ (fns ++ inits).map (fun q => (bodyK K q.1, (fdOf K q.1).defaults)) = (fns ++ inits).map (fun q => (q.2.body, Value.none)) ∧ bodyK K 335 = f_Scene_init__.body ∧ (fdOf K 335).defaults = .ref 328 ∧ psOf (fdOf K 335) = initPs ∧ K.lookup 328 = some ⟨.type "tuple", none, .seq #[.int 0 669, .str "input" 670] 0, #[]⟩ :=
    ⟨congrArg (·.1) e, congrArg (·.2.1) e, congrArg (·.2.2.1) e, congrArg (·.2.2.2.1) e, congrArg (·.2.2.2.2.1) e, congrArg (·.2.2.2.2.2) e⟩
  refine byG fun GG kk => ?_
  obtain ⟨e1, k8⟩ := Bool.and_eq_true_iff.mp e1
  obtain ⟨e1, k7⟩ := Bool.and_eq_true_iff.mp e1
  obtain ⟨e1, k6⟩ := Bool.and_eq_true_iff.mp e1
  obtain ⟨e1, k5⟩ := Bool.and_eq_true_iff.mp e1
  obtain ⟨e1, k4⟩ := Bool.and_eq_true_iff.mp e1
  obtain ⟨e1, k3⟩ := Bool.and_eq_true_iff.mp e1
  obtain ⟨k1, k2⟩ := Bool.and_eq_true_iff.mp e1
  refine kk ?_
  clear kk GG
  refine ⟨k1, k2, fun C hC x hx => List.all_eq_true.mp (List.all_eq_true.mp k3 C hC) x hx, k4, k5, fun q hq => List.all_eq_true.mp k6 q hq, k7, fun q hq => Bool.and_eq_true_iff.mp (List.all_eq_true.mp k8 q hq), fun q hq => ?_, e3, e4, e5, e6⟩
  exact Prod.mk.inj (List.map_inj_left.mp e2 q hq)
section
variable {p : Program} {w : World} {h : Heap} {K : Frag}
@[reducible] noncomputable def cx (p : Program) (w : World) (h : Heap) (K : Frag) : Cx := ⟨p, w, K, allCls, h⟩
theorem ns_some_of {N : Addr} {mg : Str → Option Value} {n : Str} {v : Value} (X : K.In h) (G : h.Ns N mg) (e : nsIn K N n = some (some v)) : mg n = some v := by
  refine byG fun GG kk => ?_
  obtain ⟨o, es, ep, ho, hd, _, hf⟩ := G
  refine kk ?_
  clear kk GG
  unfold nsIn at e
  split at e
  · rename_i c d es' n' sl q
    have := X _ _ q
    rw [ho] at this
    cases this
    cases hd
    split at e
    · rename_i en he
      cases e
      rw [← hf]
      unfold nsFind findBy
      rw [← Array.find?_toList, he]
      rfl
    · split at e <;> cases e
  · cases e
theorem gok {mg mb : Str → Option Value} (k : Seen K) (X : K.In h) (G : h.Ns mainGlobals mg) (B : h.Ns builtinsNs mb) (hb : ∀ x : Str, x ≠ "__name__" → mb x = bootBuiltins x) : Gok (cx p w h K) glo where
  ok := fun x u e => by
    unfold glo at e
    split at e
    · rename_i v hv
      cases e
      have := List.all_eq_true.mp k.c1 _ (mem_of_lookup_some hv)
      simp only [Bool.and_eq_true, beq_iff_eq] at this
      exact ⟨mg, mb, G, B, .inl (ns_some_of X G this.1), this.2⟩
    · have := List.all_eq_true.mp k.c2 _ (mem_of_lookup_some e)
      simp only [Bool.and_eq_true, beq_iff_eq, bne_iff_ne, ne_eq] at this
      refine byG fun GG kk => ?_
      obtain ⟨⟨⟨h1, h2⟩, h3⟩, h4⟩ := this
      refine kk ?_
      clear kk GG
      exact ⟨mg, mb, G, B, .inr ⟨ns_none_of X G h1, (hb x h4).trans h2⟩, h3⟩
theorem tok {fd : FuncData} (k : Seen K) (X : K.In h) (G : Gok (cx p w h K) glo) : TOk (cx p w h K) (fnTb fd glo mth muts atts) where
  g := G
  k := ⟨X, k.c3⟩
  m := ⟨fun x n C f e => by
    unfold fnTb mth at e
    dsimp only at e
    split at e
    · split at e
      · rename_i hx
        cases e; subst hx; exact k.c4
      · split at e
        · rename_i hx
          cases e; subst hx; exact k.c5
        · cases e
    · cases e⟩
theorem ent_parts {a : Addr} {f : Fn} (h : entOk K a f = true) : ∃ o, K.lookup a = some o ∧ o.data = .func (fdOf K a) ∧ fnOk (fdOf K a) = true ∧ (fdOf K a).body = .stmts (bodyOf (fdOf K a)) ∧ codeIn K (fdOf K a).code (fdOf K a).qualname = true ∧
    plainP (fdOf K a) = true ∧ f.np = (psOf (fdOf K a)).length ∧ keepIn K (.ref a) = true := by
  unfold entOk at h
  simp only [Bool.and_eq_true, beq_iff_eq] at h
  refine byG fun GG kk => ?_
  obtain ⟨⟨⟨⟨⟨⟨h1, h2⟩, h3⟩, h4⟩, h5⟩, h6⟩, h7⟩ := h
  refine kk ?_
  clear kk GG
  obtain ⟨o, ho, hd'⟩ : ∃ o, K.lookup a = some o ∧ o.data = .func (fdOf K a) := by
    unfold isFunc at h1
    unfold fdOf
    split at h1
    · rename_i oc od fd sl ho
      rw [ho]; exact ⟨_, rfl, rfl⟩
    · cases h1
  have hs : (fdOf K a).body = .stmts (bodyOf (fdOf K a)) := by
    unfold isStmts at h3
    unfold bodyOf
    split at h3
    · rename_i b hb; rw [hb]
    · cases h3
  exact ⟨o, ho, hd', h2, hs, h4, h5, h6, h7⟩
theorem dflt_nil : ∀ q ∈ fns ++ inits, q.2.dflt = [] := fun q hq => List.isEmpty_iff.mp (List.all_eq_true.mp (show ((fns ++ inits).all fun q => q.2.dflt.isEmpty) = true by kernel_rfl) q hq)
theorem ent_all (k : Seen K) (X : K.In h) (G : Gok (cx p w h K) glo) (q : Addr × Fn) (hq : q ∈ fns ++ inits) : FnEnt (cx p w h K) q.1 q.2 := by
  refine byG fun GG kk => ?_
  obtain ⟨o, ho, hd', h2, hs, h4, h5, h6, h7⟩ := ent_parts (k.c6 q hq)
  obtain ⟨hb, hd⟩ := k.c9 q hq
  refine kk ?_
  clear kk GG
  unfold plainP at h5
  simp only [Bool.and_eq_true, List.isEmpty_iff, Option.isNone_iff_eq_none] at h5
  refine byG fun GG kk => ?_
  obtain ⟨⟨⟨p1, p2⟩, p3⟩, p4⟩ := h5
  refine kk ?_
  clear kk GG
  have hn : (psOf (fdOf K q.1)).Nodup := by
    unfold fnOk at h2
    simp only [Bool.and_eq_true, decide_eq_true_eq] at h2
    exact (List.nodup_append.mp h2.1.1.2).1
  refine ⟨h7, o, fdOf K q.1, bodyOf (fdOf K q.1), glo, mth, muts, atts, [], ho, hd', h2, hs, h4, tok k X G, ?_, ?_, h6, hb.symm⟩
  · rw [dflt_nil q hq]; intro M P h; exact VRs.nil
  · intro s vs _ hl
    rw [List.append_nil]
    exact BindsTo.of_eq (binds_plain p1 p2 p3 p4 hd hn (by simpa [psOf] using hl.symm))
theorem three_of {α : Type} : ∀ {l : List α}, l.length = 3 → ∃ a b c, l = [a, b, c]
  | [a, b, c], _ => ⟨a, b, c, rfl⟩
theorem ent335 (k : Seen K) (X : K.In h) (G : Gok (cx p w h K) glo) : FnEnt (cx p w h K) 335 f_Scene_init__ := by
  refine byG fun GG kk => ?_
  obtain ⟨o, ho, hd', h2, hs, h4, h5, h6, h7⟩ := ent_parts k.c7
  refine kk ?_
  clear kk GG
  refine ⟨h7, o, fdOf K 335, bodyOf (fdOf K 335), glo, mth, muts, atts, [.int 0 669, .str "input" 670], ho, hd', h2, hs, h4, tok k X G, ?_, ?_, h6, k.d1.symm⟩
  · intro M P h; exact VRs.cons ⟨_, rfl⟩ (VRs.cons ⟨_, rfl⟩ VRs.nil)
  · intro s vs Xs hl
    have hl3 : vs.length = 3 := by
      rw [k.d3] at hl
      exact Nat.add_right_cancel hl
    obtain ⟨a, b, c, rfl⟩ := three_of hl3
    intro M A E Q q
    unfold plainP at h5
    simp only [Bool.and_eq_true, List.isEmpty_iff, Option.isNone_iff_eq_none] at h5
    refine byG fun GG kk => ?_
    obtain ⟨⟨⟨p1, p2⟩, p3⟩, p4⟩ := h5
    refine kk ?_
    clear kk GG
    rw [k.d3] at q
    have hz := k.d3
    have hd2 := k.d2
    have hd4 := Xs _ _ k.d4
    unfold psOf at hz
    generalize fdOf K 335 = fd at p1 p2 p3 p4 hd2 hz ⊢
    obtain ⟨name, qn, params, body, scope, gl, clo, df, kd, doc, pm, ann, ct, bi⟩ := fd
    obtain ⟨po, ar, va, ko, kdf, kw, dfl⟩ := params
    dsimp only at p1 p2 p3 p4 hd2 hz
    subst p1 p2 p3 p4 hd2
    dsimp only [bindArgs]
    dsimp only [sem_pb, sem_for, map_non, app_non]
    generalize ar.map (·.arg) = ns at hz ⊢
    subst hz
    refine wpAny_bind (wpAny_seqItems hd4 rfl ?_)
    exact wpAny_of_eq (a := initPs.zip ([a, b, c] ++ [.int 0 669, .str "input" 670])) (by kernel_rfl) q
theorem hfns (k : Seen K) (X : K.In h) (G : Gok (cx p w h K) glo) : ∀ q ∈ fns, FnEnt (cx p w h K) q.1 q.2 := fun q hq => ent_all k X G q (List.mem_append_left _ hq)
theorem hcls (k : Seen K) (X : K.In h) (G : Gok (cx p w h K) glo) : ∀ q ∈ clss, q.1 ∈ (cx p w h K).cls ∧ keepIn (cx p w h K).K (.ref q.1) = true ∧ clsOk (cx p w h K).K q.1 q.2.1 = true ∧ FnEnt (cx p w h K) q.2.1 q.2.2 := by
  intro q hq
  refine ⟨?_, (k.c8 q hq).1, (k.c8 q hq).2, ?_⟩
  · simp only [clss, List.mem_cons, List.not_mem_nil, or_false] at hq
    rcases hq with rfl | rfl | rfl | rfl <;> simp [allCls]
  · simp only [clss, List.mem_cons, List.not_mem_nil, or_false] at hq
    rcases hq with rfl | rfl | rfl | rfl
    · exact ent_all k X G (173, f_Rowing_init__) (List.mem_append_right _ (by simp [inits]))
    · exact ent_all k X G (285, f_Packet_init__) (List.mem_append_right _ (by simp [inits]))
    · exact ent335 k X G
    · exact ent_all k X G (412, f_Regs_init__) (List.mem_append_right _ (by simp [inits]))
end
noncomputable def LawTrue : Prop := ∀ l : List Int, l.length ≤ 63 → ∃ σ', Hk fns clss 24 537 [.lst (l.map .int)] [] = some (.bool true, σ')
theorem items_int {R : WRecords} : ∀ {xs : List WData}, WShape.hasItems R xs .int = true → ∃ l : List Int, xs = l.map .int
  | [], _ => ⟨[], rfl⟩
  | x :: xs, h => by
    simp only [WShape.hasItems, Bool.and_eq_true] at h
    obtain ⟨i, rfl⟩ := hasW_int h.1
    obtain ⟨l, rfl⟩ := items_int h.2
    exact ⟨i :: l, rfl⟩
theorem well_ints {c : Cx} {P : Params} {h : Heap} : ∀ {vs : List Value} {l : List Int}, WellAll P h vs (l.map .int) → VRs c [] [] h (l.map .int) vs
  | [], [], _ => VRs.nil
  | [], _ :: _, w => by cases w
  | _ :: _, [], w => by cases w
  | v :: vs, i :: l, w => by
    cases w with
    | cons w1 w2 =>
      cases w1
      exact VRs.cons ⟨_, rfl⟩ (well_ints w2)
theorem core (LT : LawTrue) {prog : Program} {w : World} {s₁ : Shared} {mg mb : Str → Option Value} {K : Frag} (k : Seen K) (X : K.In s₁.heap) (G : s₁.heap.Ns mainGlobals mg) (B : s₁.heap.Ns builtinsNs mb) (hb : ∀ x : Str, x ≠ "__name__" → mb x = bootBuiltins x) (nl : s₁.heap.NoLimit)
    {l : List Int} (hlen : l.length ≤ 63) {b : Addr} {vs : List Value} (hg1 : s₁.heap.get? b = some { cls := .type "list", data := .seq vs.toArray }) (w3 : WellAll w.params s₁.heap vs (l.map .int)) :
    W (model prog w) callerA (call (.ref 537) [.ref b]) (fun v s' => v = .bool true ∧ (∀ b o, s₁.heap.get? b = some o → s'.heap.get? b = some o) ∧ s'.gens = s₁.gens ∧ s'.os = s₁.os) s₁ := by
  have gk := gok (p := prog) (w := w) k X G B hb
  let c := cx prog w s₁.heap K
  have S : St c [] [] [] s₁.heap := ⟨fun _ _ e => e, rfl, fun i a o h => by simp at h, List.nodup_nil, (fun _ z => nomatch z), (fun _ z => nomatch z), (fun _ z => nomatch z), nl⟩
  obtain ⟨σ', e⟩ := LT l hlen
  have HS := HS_all (c := c) (fs := fns) (cs := clss) X (hfns k X gk) (hcls k X gk) 24
  have R : Room callerA 24 := ⟨rfl, by decide, by decide⟩
  have r : VRs c [] [] s₁.heap [.lst (l.map .int)] [.ref b] := VRs.cons ⟨b, vs.toArray, 0, rfl, (fun z => nomatch z), (fun z => nomatch z), hg1, by simpa using well_ints w3⟩ VRs.nil
  refine (HS.run _ _ _ _ _ e callerA [] [] s₁ [.ref b] R S r).mono fun v s' hv => ?_
  obtain ⟨M', g, hr⟩ := hv.to
  exact ⟨hr, g.st.base, g.gn, g.os⟩
end
section
noncomputable abbrev rw1 := PySem.Challenge.rw_pq1096_01
noncomputable abbrev pr1 := PySem.Challenge.pw_pq1096_01
noncomputable def q1 : Program := view pr1 [70]
noncomputable def loose1 : List Str := (pr1.main.scope.names.map (·.1)).filter (· != "law")
noncomputable def keys : List Addr := [3, 64, 65, 71, 72, 78, 79, 85, 86, 92, 93, 99, 100, 106, 107, 120, 121, 125, 126, 130, 131, 137, 138, 144, 145, 151, 152, 158, 159, 172, 173, 175, 176, 193, 194, 200, 201, 207, 208, 214, 215, 221, 222, 228, 229, 235, 236, 242, 243, 249, 250, 270, 271, 284, 285, 287, 288, 298, 299, 305, 306, 312, 313, 319, 320, 328, 334, 335, 337, 338, 348, 349, 355, 356, 362, 363, 369, 370, 376, 377, 383, 384, 390, 391, 397, 398, 411, 412, 418, 419, 425, 426, 428, 429, 439, 440, 446, 447, 453, 454, 460, 461, 467, 468, 474, 475, 481, 482, 488, 489, 495, 496, 502, 503, 507, 508, 512, 513, 519, 520, 526, 527, 531, 532, 536, 537]
noncomputable def fragOf (h : Heap) : Frag := keys.filterMap fun a => (h.get? a).map fun o => (a, o)
theorem frag_in (h : Heap) : (fragOf h).In h := fun a o e => by
  obtain ⟨b, _, hb⟩ := List.mem_filterMap.mp (mem_of_look e)
  obtain ⟨o', h1, h2⟩ := Option.map_eq_some_iff.mp hb
  cases h2
  exact h1
theorem a1 : (defOf q1 rw1.row.name).isSome = true := by kernel_rfl
theorem a2 : (defOf q1 rw1.row.name).map (fun x => (x.1.params, x.1.body, x.1.scope)) = pr1.theDef rw1.row.name := by kernel_rfl
theorem a3 : (defOf q1 rw1.row.name).map (fun x => kwWritten? x.1.params.kwonlyargs x.1.params.kw_defaults) = (defOf q1 rw1.row.name).map (fun x => some x.2) := by kernel_rfl
theorem a4 : opening pr1 = plainProg pr1.main.scope.names := by kernel_rfl
theorem a5 : bearImports pr1.main.body = false := by kernel_rfl
theorem a6 : (chainsOk q1 && opensWell pr1 && (frees rw1.row.toRowW && rw1.row.within.isEmpty)) = true := by kernel_rfl
theorem a7 (w : World) : ((boot_heap w.params).isNs mainGlobals, (boot_heap w.params).objs.size, (boot_heap w.params).nsMap mainGlobals "__annotations__") = (true, 11, some (.ref 6)) := by kernel_rfl
theorem a8 : pr1.bare := ⟨rfl, rfl, rfl, rfl, by kernel_rfl, by kernel_rfl⟩
theorem a9 : rw1.wellSaid = true := by
  rw [Fast.te9446332074065402090]
  kernel_rfl
theorem and18 {a b1 b2 b3 b4 b5 b6 b7 b8 b9 c1 c2 c3 c4 c5 c6 c7 c8 c9 : Bool} (h : (a && b1 && b2 && b3 && b4 && b5 && b6 && b7 && b8 && b9 && c1 && c2 && c3 && c4 && c5 && c6 && c7 && c8 && c9) = true) : a = true := by
  cases a
  · simp at h
  · rfl
theorem a11 : rw1.row.wellSaid = true := by
  have h := a9
  unfold OpenLaw.wellSaid at h
  exact and18 h
theorem a10 : rw1.row.toRowW.promised := ⟨[.list []], by kernel_rfl, by kernel_rfl⟩
theorem run1 (w : World) (os : OsState) : (topRun treeTable pr1 w 11 (some (.ref 6)) 4000 ⟨boot_heap w.params, Array.mk [], boot_drawn, boot_toks, os⟩ (topStub pr1)).map (fun s =>
      (staticsOk (importedModules pr1.main.body) (boot_heap w.params) s.heap && namesBound pr1 s.heap && gensDone s && laidKept (boot_heap w.params) s.heap, openSeen q1 loose1 (importedModules pr1.main.body) (fun _ => true) true s, seenK (fragOf s.heap))) = some (true, openGood q1 loose1, goodK) := by
  rw [Fast.te14082659384304107361, Fast.te14364793385576792824, Fast.te4187177175401517315, Fast.te5923862056798008813]
  kernel_rfl
theorem left1 : LeftO pr1 q1 loose1 (fun _ => true) (fun s => seenK (fragOf s.heap)) (fun _ => goodK) 4000 := LeftO.of_boot a4 (by decide) (fenceModules_id _ a5) a7 run1
theorem post_true (a : List WData) : (WTm.eq .res (.lit (.bool true))).value [] { args := a, res := some (.bool true), after := a } = some (.bool true) := by
  simp [WTm.value, same]
theorem top (LT : LawTrue) : rw1.Holds := by
  obtain ⟨⟨d, kwd⟩, hd⟩ := Option.isSome_iff_exists.mp a1
  have h2 := a2
  have h3 := a3
  rw [hd] at h2 h3
  refine ⟨a9, holds_openM (r := rw1.row) (XP := fun _ _ => True) (YP := fun _ h => ∃ K : Frag, K.In h ∧ Seen K) left1 (fun w s e => ⟨_, frag_in _, seen_of e⟩) (fun w h h' Y k => ⟨Y.choose, Y.choose_spec.1.keeps k, Y.choose_spec.2⟩)
    (fun _ _ => trivial) (fun _ _ _ _ _ => trivial) hd h2.symm (Option.some.inj h3) (fun _ _ => recFacts_nil rfl) rfl a11 a6 a8 a10 ?_⟩
  intro w s₀ s₁ mg mb G Y a o pm cd doc dV kV ho hdd hcd hD hmg hg args vals as hpre hlay hrd hwl hlo
  obtain ⟨K, X, k⟩ := Y
  have T := G.T
  have h1 : mg "law" = some (.ref 537) := by
    have h := List.all_eq_true.mp k.c1 (Str.ofString "law", .ref 537) (List.mem_of_getElem? (i := 62) (by kernel_rfl))
    simp only [Bool.and_eq_true, beq_iff_eq] at h
    exact ns_some_of X T.g h.1
  have h4 : mg rw1.row.name = some (.ref a) := defOf_name hd ▸ hmg
  have ha : a = 537 := by
    have h5 := h1.symm.trans h4
    cases h5; rfl
  subst ha
  obtain ⟨p1, p2⟩ := pre_splitW hpre
  have p1' : WShape.hasAll [] args [.list .int] = true := p1
  obtain ⟨d, rest, rfl, q1, q2⟩ := hasAllW_cons p1'
  have := hasAllW_nil q2
  subst this
  obtain ⟨xs, rfl, q3⟩ := hasW_list q1
  obtain ⟨l, rfl⟩ := items_int q3
  have p2' : (WTm.and (.not (.lt (.lit (.int 63)) (.len (.arg 0)))) (.lit (.bool true))).holds [] { args := [.list (l.map .int)] } = true := p2
  have hlen : l.length ≤ 63 := by
    have c1 := (holds_andW p2').1
    have c2 := condW_of (X := !decide ((63 : Int) < ((l.map WData.int).length : Nat))) c1 rfl
    have c3 : (l.length : Int) ≤ 63 := by simpa using c2
    exact Int.ofNat_le.mp c3
  cases hwl with
  | cons w1 w2 =>
    cases w2
    cases w1 with
    | list hg1 w3 =>
      rename_i b vs
      refine (core LT k X T.g T.b T.builtins T.nolimit hlen hg1 w3).mono fun v s' hv => ?_
      obtain ⟨rfl, k1, k2, k3⟩ := hv
      have g : ReadsW [] (classAt s₀.heap) s'.heap (.bool true) (.bool true) [] := .bool true
      refine ⟨.inl ⟨.bool true, .bool true, [], rfl, ?_, g, ?_, fun _ => ⟨List.nodup_nil, fun _ z => nomatch z⟩⟩, OldK.of_keep k1, k3, .of_eq (k2.trans hg)⟩
      · intro cls
        exact raisesW_false (fun ct hct => nomatch (show ct ∈ ([] : List (ExcName × WTm)) from hct)) cls
      · refine postW_of (X := true) (show WShape.has [] (.bool true) .bool = true by decide) ?_ rfl
        exact post_true _
end
section
set_option genSizeOf false
set_option genInjectivity false
inductive An where
  | r
  | v (d : DV)
  | b (b : Bool)
  | c (d : DV) (s : Sg)
  | s (f : Fl) (ρ : Rho) (s : Sg)
noncomputable abbrev Tp := List An
noncomputable abbrev KD := DV → Sg → Tp → Prop
noncomputable abbrev KR := Rho → Sg → Tp → Prop
noncomputable abbrev KF := Fl → Rho → Sg → Tp → Prop
noncomputable def optC {α : Type} (o : Option α) (K : α → Prop) : Prop := @Option.casesOn α (fun _ => Prop) o True K
noncomputable def askD (o : Option DV) (t : Tp) (K : DV → Tp → Prop) : Prop :=
  @List.casesOn An (fun _ => Prop) t (optC o fun d => K d []) fun a t => @An.casesOn (fun _ => Prop) a (optC o fun d => K d t) (fun d => o = some d → K d t) (fun _ => True) (fun _ _ => True) (fun _ _ _ => True)
noncomputable def askB (o : Option Bool) (t : Tp) (K : Bool → Tp → Prop) : Prop :=
  @List.casesOn An (fun _ => Prop) t (optC o fun d => K d []) fun a t => @An.casesOn (fun _ => Prop) a (optC o fun d => K d t) (fun _ => True) (fun d => o = some d → K d t) (fun _ _ => True) (fun _ _ _ => True)
noncomputable def askC (o : Option (DV × Sg)) (t : Tp) (K : KD) : Prop :=
  @List.casesOn An (fun _ => Prop) t (optC o fun d => K d.1 d.2 []) fun a t => @An.casesOn (fun _ => Prop) a (optC o fun d => K d.1 d.2 t) (fun _ => True) (fun _ => True) (fun d s => o = some (d, s) → K d s t) (fun _ _ _ => True)
noncomputable def askS (o : Out) (t : Tp) (K : KF) : Prop :=
  @List.casesOn An (fun _ => Prop) t True fun a t => @An.casesOn (fun _ => Prop) a True (fun _ => True) (fun _ => True) (fun _ _ => True) (fun f ρ s => o = some (f, ρ, s) → K f ρ s t)
noncomputable def orC (o : Option (DV × Sg)) (t : Tp) (K : KD) (P : Prop) : Prop :=
  @List.casesOn An (fun _ => Prop) t P fun a t => @An.casesOn (fun _ => Prop) a P (fun _ => P) (fun _ => P) (fun d s => o = some (d, s) → K d s t) (fun _ _ _ => P)
noncomputable def orS (o : Out) (t : Tp) (K : KF) (P : Prop) : Prop :=
  @List.casesOn An (fun _ => Prop) t P fun a t => @An.casesOn (fun _ => Prop) a P (fun _ => P) (fun _ => P) (fun _ _ => P) (fun f ρ s => o = some (f, ρ, s) → K f ρ s t)
noncomputable def lookK : Rho → Nat → (DV → Prop) → Prop
  | [], _, _ => True
  | o :: _, 0, K => optC o K
  | _ :: l, i + 1, K => lookK l i K
noncomputable def setK : Rho → Nat → DV → (Rho → Prop) → Prop
  | [], _, _, _ => True
  | _ :: l, 0, d, K => K (some d :: l)
  | x :: l, i + 1, d, K => setK l i d fun l => K (x :: l)
noncomputable def nonK : Nat → (Rho → Prop) → Prop
  | 0, K => K []
  | n + 1, K => nonK n fun l => K (none :: l)
noncomputable def appK : List DV → List DV → (List DV → Prop) → Prop
  | [], m, K => K m
  | d :: l, m, K => appK l m fun l => K (d :: l)
noncomputable def mapK : List DV → Rho → (Rho → Prop) → Prop
  | [], m, K => K m
  | d :: l, m, K => mapK l m fun l => K (some d :: l)
noncomputable def finC (m : Bool) (d : DV) (σ : Sg) (K : DV → Sg → Prop) : Prop := @Bool.casesOn (fun _ => Prop) m (K d σ) (optC (objD d) fun o => K (.loc σ.length) (σ ++ [o]))
noncomputable def evLC (f : IE → Sg → Tp → KD → Prop) : List IE → Sg → Tp → (List DV → Sg → Tp → Prop) → Prop
  | [], σ, t, K => K [] σ t
  | e :: r, σ, t, K => f e σ t fun d σ t => evLC f r σ t fun ds σ t => K (d :: ds) σ t
noncomputable def evOC (f : IE → Sg → Tp → KD → Prop) (o : Option IE) (σ : Sg) (t : Tp) (K : KD) : Prop := @Option.casesOn IE (fun _ => Prop) o (K .none σ t) fun e => f e σ t K
noncomputable def attV (σ : Sg) (x : DV) (nm : Str) : Option DV := (instD x).bind fun i => (dictOf' σ (.loc i.2)).bind fun q => lookD nm q.1 q.2
noncomputable def getV (σ : Sg) (x y : DV) : Option DV := (strD y).bind fun k => (dictOf' σ x).bind fun r => some ((lookD k r.1 r.2).getD .none)
noncomputable def methV (σ : Sg) (C : Addr) (nm : Str) (x : DV) : Option Bool := (instD x).bind fun i => if i.1 = C then (dictOf' σ (.loc i.2)).bind fun r => if nm ∈ r.1 then none else some true else none
noncomputable def appQ (σ : Sg) (x : DV) : Option Bool := (locD x).bind fun i => (items σ (.loc i)).map fun _ => true
noncomputable def appV (σ : Sg) (x y : DV) : Option (DV × Sg) := (locD x).bind fun i => (listAt σ i).bind fun l => if l.length ≤ big then some (.none, σ.set i (.list (l ++ [y]))) else none
noncomputable def dctQ (σ : Sg) (x : DV) : Option Bool := (dictOf' σ x).map fun _ => true
noncomputable def evC (H : Hd) : Nat → IE → Rho → Sg → Tp → KD → Prop
  | 0, _, _, _, _, _ => True
  | n + 1, e, ρ, σ, t, K => match e with
    | .v i => lookK ρ i fun d => K d σ t
    | .k d => K d σ t
    | .stk => True
    | .g u => K (.con u) σ t
    | .bin m op a b => evC H n a ρ σ t fun x σ t => evC H n b ρ σ t fun y σ t => askD (binV op x y) t fun d t => finC m d σ fun d σ => K d σ t
    | .neg a => evC H n a ρ σ t fun x σ t => optC (intD x) fun i => K (.int (-i)) σ t
    | .not a => evC H n a ρ σ t fun x σ t => optC (asB x) fun b => K (.bool !b) σ t
    | .cmp op a b => evC H n a ρ σ t fun x σ t => evC H n b ρ σ t fun y σ t => askB (cmpV σ op x y) t fun d t => K (.bool d) σ t
    | .and a b => orC (ev H (n + 1) (.and a b) ρ σ) t K (evC H n a ρ σ t fun x σ t => optC (asB x) fun u => @Bool.casesOn (fun _ => Prop) u (K (.bool false) σ t) (evC H n b ρ σ t fun y σ t => optC (asB y) fun w => K (.bool w) σ t))
    | .or a b => orC (ev H (n + 1) (.or a b) ρ σ) t K (evC H n a ρ σ t fun x σ t => optC (asB x) fun u => @Bool.casesOn (fun _ => Prop) u (evC H n b ρ σ t fun y σ t => optC (asB y) fun w => K (.bool w) σ t) (K (.bool true) σ t))
    | .ite c a b => orC (ev H (n + 1) (.ite c a b) ρ σ) t K (evC H n c ρ σ t fun x σ t => optC (asB x) fun u => @Bool.casesOn (fun _ => Prop) u (evC H n b ρ σ t K) (evC H n a ρ σ t K))
    | .tup l => @Bool.casesOn (fun _ => Prop) (Nat.ble l.length big) True (evLC (fun e σ t K => evC H n e ρ σ t K) l σ t fun ds σ t => K (.tup ds) σ t)
    | .lst m l => @Bool.casesOn (fun _ => Prop) (Nat.ble l.length big) True (evLC (fun e σ t K => evC H n e ρ σ t K) l σ t fun ds σ t => finC m (.lst ds) σ fun d σ => K d σ t)
    | .dct m ks l => orC (ev H (n + 1) (.dct m ks l) ρ σ) t K True
    | .attr a nm => evC H n a ρ σ t fun x σ t => askD (attV σ x nm) t fun d t => K d σ t
    | .sub a i => evC H n a ρ σ t fun x σ t => evC H n i ρ σ t fun y σ t => askD (subV σ x y) t fun d t => K d σ t
    | .sl a lo hi st => evC H n a ρ σ t fun x σ t => evOC (fun e σ t K => evC H n e ρ σ t K) lo σ t fun y σ t => evOC (fun e σ t K => evC H n e ρ σ t K) hi σ t fun z σ t =>
        evOC (fun e σ t K => evC H n e ρ σ t K) st σ t fun w σ t => askD (sliceV σ x y z w) t fun d t => K d σ t
    | .call f l => evC H n f ρ σ t fun x σ t => optC (refD x) fun a => evLC (fun e σ t K => evC H n e ρ σ t K) l σ t fun ds σ t => askC (H a ds σ) t K
    | .prim m b l => evLC (fun e σ t K => evC H n e ρ σ t K) l σ t fun ds σ t => askD (primV σ b ds) t fun d t => finC m d σ fun d σ => K d σ t
    | .meth C f nm a l => evC H n a ρ σ t fun x σ t => askB (methV σ C nm x) t fun w t => @Bool.casesOn (fun _ => Prop) w True (optC (instD x) fun i => evLC (fun e σ t K => evC H n e ρ σ t K) l σ t fun ds σ t => askC (H f (.inst C i.2 :: ds) σ) t K)
    | .app a x => evC H n a ρ σ t fun d σ t => askB (appQ σ d) t fun _ t => evC H n x ρ σ t fun y σ t => askC (appV σ d y) t K
    | .pop a x => orC (ev H (n + 1) (.pop a x) ρ σ) t K True
    | .dget a x => evC H n a ρ σ t fun x' σ t => askB (dctQ σ x') t fun _ t => evC H n x ρ σ t fun y σ t => askD (getV σ x' y) t fun d t => K d σ t
    | .comp ik src vs elt => orC (ev H (n + 1) (.comp ik src vs elt) ρ σ) t K True
noncomputable def asgC (H : Hd) (n : Nat) (tg : IT) (d : DV) (ρ : Rho) (σ : Sg) (t : Tp) (K : KR) : Prop := match tg with
  | .nm i => setK ρ i d fun ρ => K ρ σ t
  | tg => @List.casesOn An (fun _ => Prop) t True fun a t => @An.casesOn (fun _ => Prop) a True (fun _ => True) (fun _ => True) (fun _ s => asgT H n tg d ρ σ = some (ρ, s) → K ρ s t) (fun _ _ _ => True)
noncomputable def asgLC (H : Hd) (n : Nat) : List IT → List DV → Rho → Sg → Tp → KR → Prop
  | [], [], ρ, σ, t, K => K ρ σ t
  | g :: ts, d :: ds, ρ, σ, t, K => asgC H n g d ρ σ t fun ρ σ t => asgLC H n ts ds ρ σ t K
  | _, _, _, _, _, _ => True
noncomputable def goF (f : Rho → Sg → Tp → KF → Prop) (K : KF) : KF := fun fl ρ σ t => @Fl.casesOn (fun _ => Prop) fl (f ρ σ t K) (K .cont ρ σ t) (fun d => K (.ret d) ρ σ t)
noncomputable def exLC (f : IS → Rho → Sg → Tp → KF → Prop) : List IS → Rho → Sg → Tp → KF → Prop
  | [], ρ, σ, t, K => K .next ρ σ t
  | s :: r, ρ, σ, t, K => f s ρ σ t (goF (exLC f r) K)
noncomputable def exC (H : Hd) : Nat → IS → Rho → Sg → Tp → KF → Prop
  | 0, _, _, _, _, _ => True
  | n + 1, s, ρ, σ, t, K => match s with
    | .asg g e => evC H n e ρ σ t fun d σ t => asgC H n g d ρ σ t fun ρ σ t => K .next ρ σ t
    | .asgs rev ts e => evC H n e ρ σ t fun d σ t => optC (tupD d) fun ds => @Bool.casesOn (fun _ => Prop) rev (asgLC H n ts ds ρ σ t fun ρ σ t => K .next ρ σ t) (asgLC H n ts.reverse ds.reverse ρ σ t fun ρ σ t => K .next ρ σ t)
    | .ex e => evC H n e ρ σ t fun _ σ t => K .next ρ σ t
    | .ret o => @Option.casesOn IE (fun _ => Prop) o (K (.ret .none) ρ σ t) fun e => evC H n e ρ σ t fun d σ t => K (.ret d) ρ σ t
    | .ifS c a b => orS (ex H (n + 1) (.ifS c a b) ρ σ) t K (evC H n c ρ σ t fun x σ t => optC (asB x) fun u => @Bool.casesOn (fun _ => Prop) u (exLC (exC H n) b ρ σ t K) (exLC (exC H n) a ρ σ t K))
    | .whl c b => askS (ex H (n + 1) (.whl c b) ρ σ) t K
    | .for_ vs ik src b => askS (ex H (n + 1) (.for_ vs ik src b) ρ σ) t K
    | .forZ i j a b body => askS (ex H (n + 1) (.forZ i j a b body) ρ σ) t K
    | .cont => K .cont ρ σ t
noncomputable def fnC (H : Hd) (f : Fn) (args : List DV) (σ : Sg) (t : Tp) : Prop :=
  @Bool.casesOn (fun _ => Prop) (Nat.beq (args.length + f.dflt.length) f.np) True
    (nonK f.nl fun m => appK args f.dflt fun l => mapK l m fun ρ => exLC (exC H 64) f.body ρ σ t fun fl _ s _ => @Fl.casesOn (fun _ => Prop) fl (runF H f args σ = some (.none, s)) True (fun d => runF H f args σ = some (d, s)))
theorem bnd {α β : Type} {x : Option α} {k : α → Option β} {a : α} {r : Option β} (e : x = some a) (h : k a = r) : x.bind k = r := by subst e; exact h
theorem if_t {α : Type} {u : Bool} {a b r : α} (e : u = true) (h : a = r) : (if u then a else b) = r := (if_pos e).trans h
theorem if_f {α : Type} {u : Bool} {a b r : α} (e : u = false) (h : b = r) : (if u then a else b) = r := (if_neg (by rw [e]; exact Bool.false_ne_true)).trans h
theorem optC_of {α : Type} {o : Option α} {K : α → Prop} (h : ∀ d, o = some d → K d) : optC o K := by
  cases o with
  | none => trivial
  | some d => exact h d rfl
theorem askD_of {o : Option DV} {t : Tp} {K : DV → Tp → Prop} (h : ∀ d t, o = some d → K d t) : askD o t K := by
  cases t with
  | nil => exact optC_of fun d => h d _
  | cons a t => cases a with
    | r => exact optC_of fun d => h d _
    | v d => exact h d t
    | b _ => trivial
    | c _ _ => trivial
    | s _ _ _ => trivial
theorem askB_of {o : Option Bool} {t : Tp} {K : Bool → Tp → Prop} (h : ∀ d t, o = some d → K d t) : askB o t K := by
  cases t with
  | nil => exact optC_of fun d => h d _
  | cons a t => cases a with
    | r => exact optC_of fun d => h d _
    | v _ => trivial
    | b d => exact h d t
    | c _ _ => trivial
    | s _ _ _ => trivial
theorem askC_of {o : Option (DV × Sg)} {t : Tp} {K : KD} (h : ∀ d s t, o = some (d, s) → K d s t) : askC o t K := by
  cases t with
  | nil => exact optC_of fun d e => h _ _ _ e
  | cons a t => cases a with
    | r => exact optC_of fun d e => h _ _ _ e
    | v _ => trivial
    | b _ => trivial
    | c d s => exact h d s t
    | s _ _ _ => trivial
theorem askS_of {o : Out} {t : Tp} {K : KF} (h : ∀ f ρ s t, o = some (f, ρ, s) → K f ρ s t) : askS o t K := by
  cases t with
  | nil => trivial
  | cons a t => cases a with
    | s f ρ σ => exact h f ρ σ t
    | _ => trivial
theorem orC_of {o : Option (DV × Sg)} {t : Tp} {K : KD} {P : Prop} (h : ∀ d s t, o = some (d, s) → K d s t) (p : P) : orC o t K P := by
  cases t with
  | nil => exact p
  | cons a t => cases a with
    | c d s => exact h d s t
    | _ => exact p
theorem orS_of {o : Out} {t : Tp} {K : KF} {P : Prop} (h : ∀ f ρ s t, o = some (f, ρ, s) → K f ρ s t) (p : P) : orS o t K P := by
  cases t with
  | nil => exact p
  | cons a t => cases a with
    | s f ρ σ => exact h f ρ σ t
    | _ => exact p
theorem look_of {K : DV → Prop} : ∀ (l : Rho) (i : Nat), (∀ d, l.getD i none = some d → K d) → lookK l i K := by
  intro l
  induction l with
  | nil => exact fun _ _ => trivial
  | cons o l ih => exact fun i => match i with
    | 0 => fun h => optC_of h
    | i + 1 => fun h => ih i h
theorem set_of {d : DV} : ∀ (l : Rho) (i : Nat) (K : Rho → Prop), (i < l.length → K (l.set i (some d))) → setK l i d K := by
  intro l
  induction l with
  | nil => exact fun _ _ _ => trivial
  | cons o l ih => exact fun i => match i with
    | 0 => fun K h => h (Nat.succ_pos _)
    | i + 1 => fun K h => ih i _ fun q => h (Nat.succ_lt_succ q)
theorem non_of : ∀ (n : Nat) (K : Rho → Prop), K (List.replicate n none) → nonK n K := by
  intro n
  induction n with
  | zero => exact fun K h => h
  | succ n ih => exact fun K h => ih _ h
theorem app_of {m : List DV} : ∀ (l : List DV) (K : List DV → Prop), K (l ++ m) → appK l m K := by
  intro l
  induction l with
  | nil => exact fun K h => h
  | cons d l ih => exact fun K h => ih _ h
theorem map_of {m : Rho} : ∀ (l : List DV) (K : Rho → Prop), K (l.map some ++ m) → mapK l m K := by
  intro l
  induction l with
  | nil => exact fun K h => h
  | cons d l ih => exact fun K h => ih _ h
theorem fin_of {m : Bool} {d : DV} {σ : Sg} {K : DV → Sg → Prop} (h : ∀ x s, fin m d σ = some (x, s) → K x s) : finC m d σ K := by
  cases m with
  | false => exact h _ _ rfl
  | true => exact optC_of fun o ho => h _ _ (congrArg (fun o : Option AO => o.map fun o => (DV.loc σ.length, σ ++ [o])) ho)
section
variable {H : Hd}
noncomputable abbrev FOk (f : IE → Sg → Tp → KD → Prop) (g : IE → Sg → Option (DV × Sg)) : Prop := ∀ e σ t (K : KD), (∀ d s t', g e σ = some (d, s) → K d s t') → f e σ t K
theorem evL_of {f : IE → Sg → Tp → KD → Prop} {g : IE → Sg → Option (DV × Sg)} (ok : FOk f g) : ∀ (l : List IE) (σ : Sg) (t : Tp) (K : List DV → Sg → Tp → Prop), (∀ d s t', evL g l σ = some (d, s) → K d s t') → evLC f l σ t K := by
  intro l
  induction l with
  | nil => exact fun σ t K h => h _ _ _ rfl
  | cons e r ih => exact fun σ t K h => ok e σ t _ fun d s t' hd => ih s t' _ fun ds s' t'' hds => h _ _ _ (bnd hd (bnd hds rfl))
theorem evO_of {f : IE → Sg → Tp → KD → Prop} {g : IE → Sg → Option (DV × Sg)} (ok : FOk f g) (o : Option IE) (σ : Sg) (t : Tp) (K : KD) (h : ∀ d s t', evO g o σ = some (d, s) → K d s t') : evOC f o σ t K := by
  cases o with
  | none => exact h _ _ _ rfl
  | some e => exact ok e σ t _ h
theorem bool_of {u : Bool} {A B : Prop} (h1 : u = false → A) (h2 : u = true → B) : @Bool.casesOn (fun _ => Prop) u A B := by
  cases u with
  | false => exact h1 rfl
  | true => exact h2 rfl
theorem ev_of : ∀ (n : Nat) (e : IE) (ρ : Rho) (σ : Sg) (t : Tp) (K : KD), (∀ d s t', ev H n e ρ σ = some (d, s) → K d s t') → evC H n e ρ σ t K := by
  intro n
  induction n with
  | zero => exact fun _ _ _ _ _ _ => trivial
  | succ n ih =>
    intro e ρ σ t K h
    have okL : FOk (fun e σ t K => evC H n e ρ σ t K) (fun e s => ev H n e ρ s) := fun e => ih e ρ
    cases e with
    | v i => exact look_of ρ i fun d hd => h _ _ _ (bnd hd rfl)
    | k d => exact h _ _ _ rfl
    | stk => trivial
    | g u => exact h _ _ _ rfl
    | bin m op a b => exact ih a ρ σ t _ fun x s t hx => ih b ρ s t _ fun y s t hy => askD_of fun d t hd => fin_of fun x s hp => h _ _ _ (bnd hx (bnd hy (bnd hd hp)))
    | neg a => exact ih a ρ σ t _ fun x s t hx => optC_of fun i hi => h _ _ _ (bnd hx (bnd hi rfl))
    | not a => exact ih a ρ σ t _ fun x s t hx => optC_of fun i hi => h _ _ _ (bnd hx (bnd hi rfl))
    | cmp op a b => exact ih a ρ σ t _ fun x s t hx => ih b ρ s t _ fun y s t hy => askB_of fun d t hd => h _ _ _ (bnd hx (bnd hy (bnd hd rfl)))
    | and a b => exact orC_of h (ih a ρ σ t _ fun x s t hx => optC_of fun u hu => bool_of (fun e => h _ _ _ (bnd hx (bnd hu (if_f e rfl)))) fun e => ih b ρ s t _ fun y s t hy => optC_of fun w hw => h _ _ _ (bnd hx (bnd hu (if_t e (bnd hy (bnd hw rfl))))))
    | or a b => exact orC_of h (ih a ρ σ t _ fun x s t hx => optC_of fun u hu => bool_of (fun e => ih b ρ s t _ fun y s t hy => optC_of fun w hw => h _ _ _ (bnd hx (bnd hu (if_f e (bnd hy (bnd hw rfl)))))) (fun e => h _ _ _ (bnd hx (bnd hu (if_t e rfl)))))
    | ite c a b => exact orC_of h (ih c ρ σ t _ fun x s t hx => optC_of fun u hu => bool_of (fun e => ih b ρ s t _ fun d s t hd => h _ _ _ (bnd hx (bnd hu (if_f e hd)))) fun e => ih a ρ s t _ fun d s t hd => h _ _ _ (bnd hx (bnd hu (if_t e hd))))
    | tup l => exact bool_of (fun _ => trivial) fun e => evL_of okL l σ t _ fun ds s t hd => h _ _ _ ((if_pos (Nat.le_of_ble_eq_true e)).trans (bnd hd rfl))
    | lst m l => exact bool_of (fun _ => trivial) fun e => evL_of okL l σ t _ fun ds s t hd => fin_of fun x s' hp => h _ _ _ ((if_pos (Nat.le_of_ble_eq_true e)).trans (bnd hd hp))
    | dct m ks l => exact orC_of h trivial
    | attr a nm => exact ih a ρ σ t _ fun x s t hx => askD_of fun d t hd => h _ _ _ (bnd hx (by
        obtain ⟨i, hi, hd⟩ := Option.bind_eq_some_iff.mp hd
        obtain ⟨q, hq, hd⟩ := Option.bind_eq_some_iff.mp hd
        exact bnd hi (bnd hq (bnd hd rfl))))
    | sub a i => exact ih a ρ σ t _ fun x s t hx => ih i ρ s t _ fun y s t hy => askD_of fun d t hd => h _ _ _ (bnd hx (bnd hy (bnd hd rfl)))
    | sl a lo hi st => exact ih a ρ σ t _ fun x s t hx => evO_of okL lo s t _ fun y s t hy => evO_of okL hi s t _ fun z s t hz => evO_of okL st s t _ fun w s t hw => askD_of fun d t hd => h _ _ _ (bnd hx (bnd hy (bnd hz (bnd hw (bnd hd rfl)))))
    | call f l => exact ih f ρ σ t _ fun x s t hx => optC_of fun a ha => evL_of okL l s t _ fun ds s t hd => askC_of fun d s t hc => h _ _ _ (bnd hx (bnd ha (bnd hd hc)))
    | prim m b l => exact evL_of okL l σ t _ fun ds s t hd => askD_of fun d t he => fin_of fun x s' hp => h _ _ _ (bnd hd (bnd he hp))
    | meth C f nm a l => exact ih a ρ σ t _ fun x s t hx => askB_of fun w t hw => bool_of (fun _ => trivial) fun _ => optC_of fun i hi => evL_of okL l s t _ fun ds s' t hd => askC_of fun d s' t hc => h _ _ _ (bnd hx (bnd hi (by
        have hw : ((instD x).bind fun i => if i.1 = C then (dictOf' s (.loc i.2)).bind fun r => if nm ∈ r.1 then none else some true else none) = some w := hw
        rw [hi, Option.bind_some] at hw
        by_cases hC : i.1 = C
        · rw [if_pos hC] at hw
          obtain ⟨r, hr, hw⟩ := Option.bind_eq_some_iff.mp hw
          by_cases hn : nm ∈ r.1
          · rw [if_pos hn] at hw; cases hw
          · rw [if_pos hC]
            exact bnd hr ((if_neg hn).trans (bnd hd hc))
        · rw [if_neg hC] at hw; cases hw)))
    | app a x => exact ih a ρ σ t _ fun d s t hx => askB_of fun w t hw => ih x ρ s t _ fun y s' t hy => askC_of fun e s' t hc => h _ _ _ (bnd hx (by
        obtain ⟨i, hi, hw⟩ := Option.bind_eq_some_iff.mp hw
        obtain ⟨l, hl, hw⟩ := Option.map_eq_some_iff.mp hw
        obtain ⟨i', hi', hc⟩ := Option.bind_eq_some_iff.mp hc
        cases hi.symm.trans hi'
        exact bnd hi (bnd hl (bnd hy hc))))
    | pop a x => exact orC_of h trivial
    | dget a x => exact ih a ρ σ t _ fun d s t hx => askB_of fun w t hw => ih x ρ s t _ fun y s' t hy => askD_of fun e t hc => h _ _ _ (bnd hx (by
        obtain ⟨q, hq, hw⟩ := Option.map_eq_some_iff.mp hw
        obtain ⟨i', hi', hc⟩ := Option.bind_eq_some_iff.mp hc
        obtain ⟨r, hr, hc⟩ := Option.bind_eq_some_iff.mp hc
        exact bnd hq (bnd hy (bnd hi' (bnd hr (congrArg (fun o => o.map fun z => (z, s')) hc))))))
    | comp ik src vs elt => exact orC_of h trivial
theorem asg_of (n : Nat) (g : IT) (d : DV) (ρ : Rho) (σ : Sg) (t : Tp) (K : KR) (h : ∀ ρ' s t', asgT H n g d ρ σ = some (ρ', s) → K ρ' s t') : asgC H n g d ρ σ t K := by
  have g2 : @List.casesOn An (fun _ => Prop) t True (fun a t => @An.casesOn (fun _ => Prop) a True (fun _ => True) (fun _ => True) (fun _ s => asgT H n g d ρ σ = some (ρ, s) → K ρ s t) (fun _ _ _ => True)) := by
    cases t with
    | nil => trivial
    | cons a t => cases a with
      | c _ s => exact h _ _ _
      | _ => trivial
  cases g with
  | nm i => exact set_of ρ i _ fun e => h _ _ _ (if_pos e)
  | _ => exact g2
theorem asgL_of (n : Nat) : ∀ (ts : List IT) (ds : List DV) (ρ : Rho) (σ : Sg) (t : Tp) (K : KR), (∀ ρ' s t', asgL H n ts ds ρ σ = some (ρ', s) → K ρ' s t') → asgLC H n ts ds ρ σ t K := by
  intro ts
  induction ts with
  | nil => exact fun ds => match ds with
    | [] => fun ρ σ t K h => h _ _ _ rfl
    | _ :: _ => fun _ _ _ _ _ => trivial
  | cons g ts ih => exact fun ds => match ds with
    | [] => fun _ _ _ _ _ => trivial
    | d :: ds => fun ρ σ t K h => asg_of n g d ρ σ t _ fun ρ' s t' he => ih ds ρ' s t' _ fun ρ'' s t' hf => h _ _ _ (bnd he hf)
theorem exL_of {f : IS → Rho → Sg → Tp → KF → Prop} {g : IS → Rho → Sg → Out} (ok : ∀ s ρ σ t (K : KF), (∀ fl ρ' s' t', g s ρ σ = some (fl, ρ', s') → K fl ρ' s' t') → f s ρ σ t K) :
    ∀ (l : List IS) (ρ : Rho) (σ : Sg) (t : Tp) (K : KF), (∀ fl ρ' s' t', exL g l ρ σ = some (fl, ρ', s') → K fl ρ' s' t') → exLC f l ρ σ t K := by
  intro l
  induction l with
  | nil => exact fun ρ σ t K h => h _ _ _ _ rfl
  | cons s r ih => exact fun ρ σ t K h => ok s ρ σ t _ fun fl ρ' s' t' he => match fl, he with
    | .next, he => ih ρ' s' t' _ fun fl ρ'' s'' t'' hf => h _ _ _ _ (bnd he hf)
    | .cont, he => h _ _ _ _ (bnd he rfl)
    | .ret d, he => h _ _ _ _ (bnd he rfl)
theorem ex_of : ∀ (n : Nat) (s : IS) (ρ : Rho) (σ : Sg) (t : Tp) (K : KF), (∀ fl ρ' s' t', ex H n s ρ σ = some (fl, ρ', s') → K fl ρ' s' t') → exC H n s ρ σ t K := by
  intro n
  induction n with
  | zero => exact fun _ _ _ _ _ _ => trivial
  | succ n ih =>
    intro s ρ σ t K h
    cases s with
    | asg g e => exact ev_of n e ρ σ t _ fun d s t hd => asg_of n g d ρ s t _ fun ρ' s' t he => h _ _ _ _ (bnd hd (bnd he rfl))
    | asgs rev ts e => exact ev_of n e ρ σ t _ fun d s t hd => optC_of fun ds hs => bool_of (fun e => asgL_of n ts ds ρ s t _ fun ρ' s' t he => h _ _ _ _ (bnd hd (bnd hs (bnd ((if_f e rfl).trans he) rfl)))) fun e => asgL_of n _ _ ρ s t _ fun ρ' s' t he => h _ _ _ _ (bnd hd (bnd hs (bnd ((if_t e rfl).trans he) rfl)))
    | ex e => exact ev_of n e ρ σ t _ fun d s t hd => h _ _ _ _ (bnd hd rfl)
    | ret o => cases o with
      | none => exact h _ _ _ _ rfl
      | some e => exact ev_of n e ρ σ t _ fun d s t hd => h _ _ _ _ (bnd hd rfl)
    | ifS c a b => exact orS_of h (ev_of n c ρ σ t _ fun x s t hx => optC_of fun u hu => bool_of (fun e => exL_of ih b ρ s t _ fun fl ρ' s' t hf => h _ _ _ _ (bnd hx (bnd hu (if_f e hf)))) fun e => exL_of ih a ρ s t _ fun fl ρ' s' t hf => h _ _ _ _ (bnd hx (bnd hu (if_t e hf))))
    | whl c b => exact askS_of h
    | for_ vs ik src b => exact askS_of h
    | forZ i j a b body => exact askS_of h
    | cont => exact h _ _ _ _ rfl
theorem fn_of (f : Fn) (args : List DV) (σ : Sg) (t : Tp) : fnC H f args σ t := by
  refine bool_of (fun _ => trivial) fun e => non_of _ _ (app_of _ _ (map_of _ _ (exL_of (ex_of 64) f.body _ σ t _ fun fl ρ s t' he => ?_)))
  have hc : args.length + f.dflt.length = f.np := Nat.eq_of_beq_eq_true e
  cases fl with
  | next => exact (if_pos hc).trans (bnd he rfl)
  | cont => trivial
  | ret d => exact (if_pos hc).trans (bnd he rfl)
theorem walk {f : Fn} {args : List DV} {σ : Sg} {r : Option (DV × Sg)} (t : Tp) (w : fnC H f args σ t → runF H f args σ = r) : runF H f args σ = r := w (fn_of f args σ t)
theorem walkL {n : Nat} {l : List IS} {ρ : Rho} {σ : Sg} {r : Out} (t : Tp) (w : exLC (exC H n) l ρ σ t (fun fl ρ' s _ => exL (ex H n) l ρ σ = some (fl, ρ', s)) → exL (ex H n) l ρ σ = r) : exL (ex H n) l ρ σ = r := w (exL_of (ex_of n) l ρ σ t _ fun _ _ _ _ h => h)
theorem walkS {n : Nat} {i : IS} {ρ : Rho} {σ : Sg} {r : Out} (t : Tp) (w : exC H n i ρ σ t (fun fl ρ' s _ => ex H n i ρ σ = some (fl, ρ', s)) → ex H n i ρ σ = r) : ex H n i ρ σ = r := w (ex_of n i ρ σ t _ fun _ _ _ _ h => h)
theorem walkE {n : Nat} {e : IE} {ρ : Rho} {σ : Sg} {r : Option (DV × Sg)} (t : Tp) (w : evC H n e ρ σ t (fun d s _ => ev H n e ρ σ = some (d, s)) → ev H n e ρ σ = r) : ev H n e ρ σ = r := w (ev_of n e ρ σ t _ fun _ _ _ h => h)
end
end
section
noncomputable abbrev HH (k : Nat) : Hd := Hk fns clss k
section
variable {H : Hd} {n k : Nat} {ρ : Rho} {σ : Sg} {args : List DV}
theorem h65 : HH (k + 1) 65 args σ = runF (HH k) f_needs_of args σ := rfl
theorem h72 : HH (k + 1) 72 args σ = runF (HH k) f_needs_in args σ := rfl
theorem h79 : HH (k + 1) 79 args σ = runF (HH k) f_field_named args σ := rfl
theorem h86 : HH (k + 1) 86 args σ = runF (HH k) f_is_worked args σ := rfl
theorem h93 : HH (k + 1) 93 args σ = runF (HH k) f_field_under args σ := rfl
theorem h100 : HH (k + 1) 100 args σ = runF (HH k) f_size_of args σ := rfl
theorem h107 : HH (k + 1) 107 args σ = runF (HH k) f_order_of args σ := rfl
theorem h121 : HH (k + 1) 121 args σ = runF (HH k) f_number_of args σ := rfl
theorem h126 : HH (k + 1) 126 args σ = runF (HH k) f_octets_of args σ := rfl
theorem h131 : HH (k + 1) 131 args σ = runF (HH k) f_turned args σ := rfl
theorem h138 : HH (k + 1) 138 args σ = runF (HH k) f_host_octets args σ := rfl
theorem h145 : HH (k + 1) 145 args σ = runF (HH k) f_host_order args σ := rfl
theorem h152 : HH (k + 1) 152 args σ = runF (HH k) f_pad4 args σ := rfl
theorem h159 : HH (k + 1) 159 args σ = runF (HH k) f_bits_of args σ := rfl
theorem h194 : HH (k + 1) 194 args σ = runF (HH k) f_const args σ := rfl
theorem h201 : HH (k + 1) 201 args σ = runF (HH k) f_turn_row args σ := rfl
theorem h208 : HH (k + 1) 208 args σ = runF (HH k) f_field_row args σ := rfl
theorem h215 : HH (k + 1) 215 args σ = runF (HH k) f_put_needs args σ := rfl
theorem h222 : HH (k + 1) 222 args σ = runF (HH k) f_cut_row args σ := rfl
theorem h229 : HH (k + 1) 229 args σ = runF (HH k) f_load_field args σ := rfl
theorem h236 : HH (k + 1) 236 args σ = runF (HH k) f_bits_row args σ := rfl
theorem h243 : HH (k + 1) 243 args σ = runF (HH k) f_shift_rows args σ := rfl
theorem h250 : HH (k + 1) 250 args σ = runF (HH k) f_load args σ := rfl
theorem h271 : HH (k + 1) 271 args σ = runF (HH k) f_new_meta args σ := rfl
theorem h299 : HH (k + 1) 299 args σ = runF (HH k) f_family_of args σ := rfl
theorem h306 : HH (k + 1) 306 args σ = runF (HH k) f_base_of args σ := rfl
theorem h313 : HH (k + 1) 313 args σ = runF (HH k) f_part args σ := rfl
theorem h320 : HH (k + 1) 320 args σ = runF (HH k) f_field_bits args σ := rfl
theorem h349 : HH (k + 1) 349 args σ = runF (HH k) f_needs_met args σ := rfl
theorem h356 : HH (k + 1) 356 args σ = runF (HH k) f_width_of args σ := rfl
theorem h363 : HH (k + 1) 363 args σ = runF (HH k) f_read_by args σ := rfl
theorem h370 : HH (k + 1) 370 args σ = runF (HH k) f_masked args σ := rfl
theorem h377 : HH (k + 1) 377 args σ = runF (HH k) f_value_of args σ := rfl
theorem h384 : HH (k + 1) 384 args σ = runF (HH k) f_meta_value args σ := rfl
theorem h391 : HH (k + 1) 391 args σ = runF (HH k) f_read_payload args σ := rfl
theorem h398 : HH (k + 1) 398 args σ = runF (HH k) f_read_meta args σ := rfl
theorem h419 : HH (k + 1) 419 args σ = runF (HH k) f_Regs_get args σ := rfl
theorem h426 : HH (k + 1) 426 args σ = runF (HH k) f_Regs_put args σ := rfl
theorem h440 : HH (k + 1) 440 args σ = runF (HH k) f_op_bitwise args σ := rfl
theorem h447 : HH (k + 1) 447 args σ = runF (HH k) f_op_shift args σ := rfl
theorem h454 : HH (k + 1) 454 args σ = runF (HH k) f_op_byteorder args σ := rfl
theorem h461 : HH (k + 1) 461 args σ = runF (HH k) f_put_number args σ := rfl
theorem h468 : HH (k + 1) 468 args σ = runF (HH k) f_op_payload args σ := rfl
theorem h475 : HH (k + 1) 475 args σ = runF (HH k) f_op_meta args σ := rfl
theorem h482 : HH (k + 1) 482 args σ = runF (HH k) f_law_draw args σ := rfl
theorem h489 : HH (k + 1) 489 args σ = runF (HH k) f_law_told args σ := rfl
theorem h496 : HH (k + 1) 496 args σ = runF (HH k) f_law_fields args σ := rfl
theorem h503 : HH (k + 1) 503 args σ = runF (HH k) f_law_worked args σ := rfl
theorem h508 : HH (k + 1) 508 args σ = runF (HH k) f_law_due args σ := rfl
theorem h513 : HH (k + 1) 513 args σ = runF (HH k) f_law_octets args σ := rfl
theorem h520 : HH (k + 1) 520 args σ = runF (HH k) f_law_run args σ := rfl
theorem h527 : HH (k + 1) 527 args σ = runF (HH k) f_law_scene args σ := rfl
theorem h532 : HH (k + 1) 532 args σ = runF (HH k) f_law_left args σ := rfl
theorem h537 : HH (k + 1) 537 args σ = runF (HH k) f_law args σ := rfl
theorem h176 : HH (k + 1) 176 args σ = mkF 176 (runF (HH k) f_Rowing_init__) args σ := rfl
theorem h288 : HH (k + 1) 288 args σ = mkF 288 (runF (HH k) f_Packet_init__) args σ := rfl
theorem h338 : HH (k + 1) 338 args σ = mkF 338 (runF (HH k) f_Scene_init__) args σ := rfl
theorem h429 : HH (k + 1) 429 args σ = mkF 429 (runF (HH k) f_Regs_init__) args σ := rfl
theorem ev_v (i : Nat) : ev H (n + 1) (.v i) ρ σ = (ρ.getD i none).bind fun d => some (d, σ) := rfl
@[simp] theorem ev_k (d : DV) : ev H (n + 1) (.k d) ρ σ = some (d, σ) := rfl
@[simp] theorem ev_g (u : Value) : ev H (n + 1) (.g u) ρ σ = some (.con u, σ) := rfl
theorem ev_bin (m : Bool) (op : Operator) (a b : IE) : ev H (n + 1) (.bin m op a b) ρ σ = (ev H n a ρ σ).bind fun p => (ev H n b ρ p.2).bind fun q => (binV op p.1 q.1).bind fun d => fin m d q.2 := rfl
theorem ev_neg (a : IE) : ev H (n + 1) (.neg a) ρ σ = (ev H n a ρ σ).bind fun p => (intD p.1).bind fun i => some (.int (-i), p.2) := rfl
theorem ev_not (a : IE) : ev H (n + 1) (.not a) ρ σ = (ev H n a ρ σ).bind fun p => (asB p.1).bind fun b => some (.bool !b, p.2) := rfl
theorem ev_cmp (op : CmpOp) (a b : IE) : ev H (n + 1) (.cmp op a b) ρ σ = (ev H n a ρ σ).bind fun p => (ev H n b ρ p.2).bind fun q => (cmpV q.2 op p.1 q.1).bind fun d => some (.bool d, q.2) := rfl
theorem ev_and (a b : IE) : ev H (n + 1) (.and a b) ρ σ = (ev H n a ρ σ).bind fun p => (asB p.1).bind fun t => if t then (ev H n b ρ p.2).bind fun q => (asB q.1).bind fun u => some (.bool u, q.2) else some (.bool false, p.2) := rfl
theorem ev_or (a b : IE) : ev H (n + 1) (.or a b) ρ σ = (ev H n a ρ σ).bind fun p => (asB p.1).bind fun t => if t then some (.bool true, p.2) else (ev H n b ρ p.2).bind fun q => (asB q.1).bind fun u => some (.bool u, q.2) := rfl
theorem ev_ite (c a b : IE) : ev H (n + 1) (.ite c a b) ρ σ = (ev H n c ρ σ).bind fun p => (asB p.1).bind fun t => if t then ev H n a ρ p.2 else ev H n b ρ p.2 := rfl
theorem ev_tup (l : List IE) : ev H (n + 1) (.tup l) ρ σ = if l.length ≤ big then (evL (fun e s => ev H n e ρ s) l σ).bind fun p => some (.tup p.1, p.2) else none := rfl
theorem ev_lst (m : Bool) (l : List IE) : ev H (n + 1) (.lst m l) ρ σ = if l.length ≤ big then (evL (fun e s => ev H n e ρ s) l σ).bind fun p => fin m (.lst p.1) p.2 else none := rfl
theorem ev_dct (m : Bool) (ks : List Str) (l : List IE) : ev H (n + 1) (.dct m ks l) ρ σ = if l.length ≤ 15 ∧ ks.length = l.length ∧ ks.Nodup then (evL (fun e s => ev H n e ρ s) l σ).bind fun p => fin m (.dct ks p.1) p.2 else none := rfl
theorem ev_attr (a : IE) (nm : Str) : ev H (n + 1) (.attr a nm) ρ σ = (ev H n a ρ σ).bind fun p => (instD p.1).bind fun i => (dictOf' p.2 (.loc i.2)).bind fun q => (lookD nm q.1 q.2).bind fun d => some (d, p.2) := rfl
theorem ev_sub (a i : IE) : ev H (n + 1) (.sub a i) ρ σ = (ev H n a ρ σ).bind fun p => (ev H n i ρ p.2).bind fun q => (subV q.2 p.1 q.1).bind fun d => some (d, q.2) := rfl
theorem ev_sl (a : IE) (lo hi st : Option IE) : ev H (n + 1) (.sl a lo hi st) ρ σ = (ev H n a ρ σ).bind fun p => (evO (fun e s => ev H n e ρ s) lo p.2).bind fun q => (evO (fun e s => ev H n e ρ s) hi q.2).bind fun r =>
        (evO (fun e s => ev H n e ρ s) st r.2).bind fun t => (sliceV t.2 p.1 q.1 r.1 t.1).bind fun d => some (d, t.2) := rfl
theorem ev_call (f : IE) (l : List IE) : ev H (n + 1) (.call f l) ρ σ = (ev H n f ρ σ).bind fun p => (refD p.1).bind fun a => (evL (fun e s => ev H n e ρ s) l p.2).bind fun q => H a q.1 q.2 := rfl
theorem ev_prim (m : Bool) (b : BI) (l : List IE) : ev H (n + 1) (.prim m b l) ρ σ = (evL (fun e s => ev H n e ρ s) l σ).bind fun p => (primV p.2 b p.1).bind fun d => fin m d p.2 := rfl
theorem ev_meth (C f : Addr) (nm : Str) (a : IE) (l : List IE) : ev H (n + 1) (.meth C f nm a l) ρ σ = (ev H n a ρ σ).bind fun p => (instD p.1).bind fun i => if i.1 = C then (dictOf' p.2 (.loc i.2)).bind fun r => if nm ∈ r.1 then none else (evL (fun e s => ev H n e ρ s) l p.2).bind fun q => H f (.inst C i.2 :: q.1) q.2 else none := rfl
theorem ev_app (a x : IE) : ev H (n + 1) (.app a x) ρ σ = (ev H n a ρ σ).bind fun p => (locD p.1).bind fun i => (items p.2 (.loc i)).bind fun _ => (ev H n x ρ p.2).bind fun q => (listAt q.2 i).bind fun l =>
        if l.length ≤ big then some (.none, q.2.set i (.list (l ++ [q.1]))) else none := rfl
theorem ev_dget (a x : IE) : ev H (n + 1) (.dget a x) ρ σ = (ev H n a ρ σ).bind fun p => (dictOf' p.2 p.1).bind fun _ => (ev H n x ρ p.2).bind fun q => (strD q.1).bind fun k => (dictOf' q.2 p.1).bind fun r => some ((lookD k r.1 r.2).getD .none, q.2) := rfl
theorem ev_comp (ik : IK) (src : IE) (vs : List Nat) (elt : IE) : ev H (n + 1) (.comp ik src vs elt) ρ σ = (ev H n src ρ σ).bind fun p => (itemsOf ik p.1).bind fun its =>
        if its.length ≤ big then (compL (fun x s => (setAll ρ vs x).bind fun ρ' => ev H n elt ρ' s) its p.2).bind fun q => some (.lst q.1, q.2) else none := rfl
@[simp] theorem evL_nil (f : IE → Sg → Option (DV × Sg)) : evL f [] σ = some ([], σ) := rfl
theorem evL_cons (f : IE → Sg → Option (DV × Sg)) (e : IE) (r : List IE) : evL f (e :: r) σ = (f e σ).bind fun p => (evL f r p.2).bind fun q => some (p.1 :: q.1, q.2) := rfl
theorem ex_asg (t : IT) (e : IE) : ex H (n + 1) (.asg t e) ρ σ = (ev H n e ρ σ).bind fun p => (asgT H n t p.1 ρ p.2).bind fun q => some (.next, q.1, q.2) := rfl
theorem ex_asgs (rev : Bool) (ts : List IT) (e : IE) : ex H (n + 1) (.asgs rev ts e) ρ σ = (ev H n e ρ σ).bind fun p => (tupD p.1).bind fun ds => (if rev then asgL H n ts.reverse ds.reverse ρ p.2 else asgL H n ts ds ρ p.2).bind fun q => some (.next, q.1, q.2) := rfl
theorem ex_ex (e : IE) : ex H (n + 1) (.ex e) ρ σ = (ev H n e ρ σ).bind fun p => some (.next, ρ, p.2) := rfl
@[simp] theorem ex_ret0 : ex H (n + 1) (.ret none) ρ σ = some (.ret .none, ρ, σ) := rfl
theorem ex_ret (e : IE) : ex H (n + 1) (.ret (some e)) ρ σ = (ev H n e ρ σ).bind fun p => some (.ret p.1, ρ, p.2) := rfl
theorem ex_if (c : IE) (a b : List IS) : ex H (n + 1) (.ifS c a b) ρ σ = (ev H n c ρ σ).bind fun p => (asB p.1).bind fun t => if t then exL (ex H n) a ρ p.2 else exL (ex H n) b ρ p.2 := rfl
theorem ex_while (c : IE) (b : List IS) : ex H (n + 1) (.whl c b) ρ σ = whL (ev H n c) (exL (ex H n) b) n ρ σ := rfl
theorem ex_for (vs : List Nat) (ik : IK) (src : IE) (b : List IS) : ex H (n + 1) (.for_ vs ik src b) ρ σ = (ev H n src ρ σ).bind fun p => (itemsOf ik p.1).bind fun its =>
        if its.length ≤ big then forL (fun x ρ' s => (setAll ρ' vs x).bind fun ρ'' => exL (ex H n) b ρ'' s) its ρ p.2 else none := rfl
@[simp] theorem ex_cont : ex H (n + 1) .cont ρ σ = some (.cont, ρ, σ) := rfl
@[simp] theorem exL_nil (f : IS → Rho → Sg → Out) : exL f [] ρ σ = some (.next, ρ, σ) := rfl
theorem exO_cons (f : IS → Rho → Sg → Out) (s : IS) (r : List IS) : exL f (s :: r) ρ σ = (f s ρ σ).bind (nextF (exL f r)) := rfl
@[simp] theorem asgT_nm (i : Nat) (d : DV) : asgT H n (.nm i) d ρ σ = if i < ρ.length then some (ρ.set i (some d), σ) else none := rfl
end
section
variable {H : Hd} {n : Nat} {ρ : Rho} {σ s : Sg} {d x y z : DV} {m : Bool} {a b c e : IE} {l : List IE} {ds : List DV} {f : IE → Sg → Option (DV × Sg)} {C C' : Addr}
@[simp] theorem listAt_of {i : Nat} {l : List DV} (h : s[i]? = some (.list l)) : listAt s i = some l := by rw [listAt, h]; rfl
@[simp] theorem turnF_next {f : Rho → Sg → Out} : turnF f (.next, ρ, s) = f ρ s := rfl
@[simp] theorem turnF_cont {f : Rho → Sg → Out} : turnF f (.cont, ρ, s) = f ρ s := rfl
@[simp] theorem turnF_ret {f : Rho → Sg → Out} : turnF f (.ret x, ρ, s) = some (.ret x, ρ, s) := rfl
@[simp] theorem intD_int {i : Int} : intD (.int i) = some i := rfl
@[simp] theorem intD_dn {n : Nat} : intD (dn n) = some (n : Int) := rfl
@[simp] theorem strD_str {z : Str} : strD (.str z) = some z := rfl
@[simp] theorem strD_dn {n : Nat} : strD (dn n) = none := rfl
@[simp] theorem strD_int {i : Int} : strD (.int i) = none := rfl
@[simp] theorem bytD_bytes {b : Array UInt8} : bytD (.bytes b) = some b := rfl
@[simp] theorem tupD_tup {l : List DV} : tupD (.tup l) = some l := rfl
@[simp] theorem lstD_lst {l : List DV} : lstD (.lst l) = some l := rfl
@[simp] theorem locD_loc {i : Nat} : locD (.loc i) = some i := rfl
@[simp] theorem instD_inst {C : Addr} {i : Nat} : instD (.inst C i) = some (C, i) := rfl
@[simp] theorem refD_con {a : Addr} : refD (.con (.ref a)) = some a := rfl
@[simp] theorem objD_lst {l : List DV} : objD (.lst l) = some (.list l) := rfl
@[simp] theorem objD_ba {b : Array UInt8} : objD (.ba b) = some (.ba b) := rfl
@[simp] theorem objD_dct {ks : List Str} {l : List DV} : objD (.dct ks l) = some (.dict ks l) := rfl
@[simp] theorem baAt_of {i : Nat} {b : Array UInt8} (h : s[i]? = some (.ba b)) : baAt s i = some b := by rw [baAt, h]; rfl
@[simp] theorem mapD_nil {α : Type} {f : DV → Option α} : mapD f [] = some [] := rfl
@[simp] theorem mapD_cons {α : Type} {f : DV → Option α} {l : List DV} : mapD f (x :: l) = (f x).bind fun i => (mapD f l).map (i :: ·) := rfl
end
end
section
theorem ar_dm (f b : Nat) : (f + b + 7) / 8 = f / 8 + (f % 8 + b + 7) / 8 := by
  have e : f + b + 7 = 8 * (f / 8) + (f % 8 + b + 7) := by rw [← Nat.add_assoc, ← Nat.add_assoc, Nat.div_add_mod]
  rw [e, Nat.mul_add_div (by decide)]
theorem ar_le {f b n : Nat} (h : f + b ≤ 8 * n) : (f + b + 7) / 8 ≤ n := Nat.le_of_lt_succ (Nat.div_lt_of_lt_mul (by lia))
theorem ar_gt {f b n : Nat} (h : ¬ f + b ≤ 8 * n) : n < (f + b + 7) / 8 := (Nat.le_div_iff_mul_le (by decide)).mpr (by lia)
theorem ar_sub (f b : Nat) : (f + b + 7) / 8 - f / 8 = (f % 8 + b + 7) / 8 := by rw [ar_dm, Nat.add_sub_cancel_left]
theorem ar_cov (r b : Nat) : r + b ≤ 8 * ((r + b + 7) / 8) := by
  have := Nat.lt_mul_div_succ (r + b + 7) (show 0 < 8 by decide)
  lia
theorem ar_bel (f b : Nat) : 8 * ((f + b + 7) / 8) - f - b = 8 * ((f % 8 + b + 7) / 8) - f % 8 - b := by
  have e : ∀ q r m : Nat, 8 * (q + m) - (8 * q + r) - b = 8 * m - r - b := fun q r m => by rw [Nat.mul_add, Nat.add_sub_add_left]
  have := e (f / 8) (f % 8) ((f % 8 + b + 7) / 8)
  rwa [Nat.div_add_mod, ← ar_dm] at this
theorem ar_split {f b m n : Nat} (hm : m = (f % 8 + b + 7) / 8) (h1 : f / 8 + m ≤ n) : 8 * n - (f + b) = 8 * (n - (f / 8 + m)) + (8 * m - f % 8 - b) := by
  have c := ar_cov (f % 8) b
  rw [← hm] at c
  obtain ⟨z, rfl⟩ := Nat.le.dest h1
  have e : ∀ q r : Nat, r + b ≤ 8 * m → 8 * (q + m + z) - (8 * q + r + b) = 8 * z + (8 * m - r - b) := fun q r c => by
    rw [Nat.mul_add, Nat.mul_add, Nat.add_assoc, Nat.add_assoc (8 * q) r b, Nat.add_sub_add_left, Nat.add_comm (8 * m), Nat.add_sub_assoc c, Nat.sub_sub]
  have := e (f / 8) (f % 8) c
  rw [Nat.div_add_mod] at this
  rw [this, Nat.add_sub_cancel_left]
theorem ar_fit {f b m n : Nat} (hm : m = (f % 8 + b + 7) / 8) (h : f + b ≤ 8 * n) : f / 8 + m ≤ n := by rw [hm, ← ar_dm]; exact ar_le h
theorem ar_pad (n : Nat) : ((-(n : Int)) % 4).toNat = (4 - n % 4) % 4 := by
  have h := Nat.div_add_mod n 4
  have e : -(n : Int) = -((n % 4 : Nat) : Int) + 4 * (-((n / 4 : Nat) : Int)) := by
    rw [Int.mul_neg, ← Int.neg_add, Int.add_comm]
    exact congrArg (fun x : Nat => -(x : Int)) h.symm
  rw [e, Int.add_mul_emod_self_left]
  exact (by decide : ∀ r : Nat, r < 4 → ((-(r : Int)) % 4).toNat = (4 - r) % 4) _ (Nat.mod_lt n (by decide))
theorem take_len {α : Type} {l : List α} {a m : Nat} (h : a + m ≤ l.length) : ((l.drop a).take m).length = m := by
  rw [List.length_take, List.length_drop, Nat.min_eq_left (Nat.le_sub_of_add_le' h)]
theorem ar_zero {r b s : Nat} (c : r + b ≤ 8 * s) (h0 : 8 * s - r - b = 0) (hr : ¬ 0 < r) : b = 8 * s := by lia
theorem ar_in {i r b m : Nat} (c : r + b ≤ 8 * m) (h : i < b) : i + (8 * m - r - b) < 8 * m := by lia
theorem range_pick {α : Type} (l : List α) (a : Nat) : ∀ n : Nat, a + n ≤ l.length → (((List.range n).map (a + ·)).filterMap (l[·]?)) = (l.drop a).take n
  | 0, _ => by simp
  | n + 1, h => by
    rw [List.range_succ, List.map_append, List.filterMap_append, range_pick l a n (by lia)]
    have h' : a + n < l.length := by lia
    rw [List.take_succ_eq_append_getElem (by rw [List.length_drop]; lia)]
    congr 1
    simp [h']
theorem bounds_nn {n : Nat} (lo hi : Option Int) (a e : Nat) (h1 : lo = none ∧ a = 0 ∨ lo = some (a : Int)) (h2 : hi = none ∧ e = n ∨ hi = some (e : Int)) (ha : a ≤ n) (he : e ≤ n) : sliceBounds lo hi none n = ((a : Int), (e : Int), 1) := by
  have e1 : kms_lo lo n = a := by
    rcases h1 with ⟨rfl, rfl⟩ | rfl
    · rfl
    · exact bnd_lo ha
  have e2 : kms_hi hi n = e := by
    rcases h2 with ⟨rfl, rfl⟩ | rfl
    · rfl
    · exact bnd_hi he
  rw [kms_bounds, e1, e2]
theorem slPick_nn (l : List DV) {lo hi : Option Int} {a e : Nat} (h1 : lo = none ∧ a = 0 ∨ lo = some (a : Int)) (h2 : hi = none ∧ e = l.length ∨ hi = some (e : Int)) (ha : a ≤ e) (he : e ≤ l.length) : slPick l lo hi none = (l.drop a).take (e - a) := by
  unfold slPick
  rw [bounds_nn lo hi a e h1 h2 (by lia) he]
  show (sliceRange a e 1).filterMap _ = _
  rw [sliceRange_one, range_pick l a (e - a) (by lia)]
theorem baPick_nn (b : Array UInt8) (a e : Nat) (ha : a ≤ e) (he : e ≤ b.size) : baPick b (some (a : Int)) (some (e : Int)) = ((b.toList.drop a).take (e - a)).toArray := by
  unfold baPick
  rw [bounds_nn _ _ a e (.inr rfl) (.inr rfl) (by lia) he]
  show ((sliceRange a e 1).filterMap (b[·]?)).toArray = _
  rw [sliceRange_one]
  have := range_pick b.toList a (e - a) (by simp; lia)
  simp only [Array.getElem?_toList] at this
  rw [this]
theorem slPick_rev (l : List DV) : slPick l none none (some (-1)) = l.reverse := by
  unfold slPick
  have hb : sliceBounds none none (some (-1)) l.length = ((l.length : Int) - 1, -1, -1) := by
    unfold sliceBounds; simp
  rw [hb]
  show (sliceRange ((l.length : Int) - 1) (-1) (-1)).filterMap _ = _
  have hr : sliceRange ((l.length : Int) - 1) (-1) (-1) = (List.range l.length).map fun k => l.length - 1 - k := by
    unfold sliceRange
    have hc : (if ((l.length : Int) - 1) > -1 then (((l.length : Int) - 1) - (-1) - (-1) - 1) / (-(-1)) else 0).toNat = l.length := by
      split
      · simp
      · lia
    simp only [show ¬ ((-1 : Int) > 0) by decide, if_false]
    rw [hc]
    refine List.map_congr_left fun k hk => ?_
    have := List.mem_range.mp hk
    lia
  rw [hr, List.filterMap_map]
  have : ∀ n, n ≤ l.length → (List.range n).filterMap ((fun x => l[x]?) ∘ fun k => l.length - 1 - k) = l.reverse.take n := by
    intro n
    induction n with
    | zero => simp
    | succ n ih =>
      intro h
      rw [List.range_succ, List.filterMap_append, ih (by lia), List.take_succ_eq_append_getElem (by simp; lia)]
      congr 1
      have h' : l.length - 1 - n < l.length := by lia
      simp [h', List.getElem_reverse]
  rw [this _ (Nat.le_refl _)]
  exact List.take_of_length_le (by simp)
noncomputable def digs (n : Nat) : Nat → List Nat
  | 0 => []
  | s + 1 => n % 256 :: digs (n / 256) s
noncomputable def num (l : List Nat) : Nat := l.foldl (fun a b => a * 256 + b) 0
noncomputable def toB (l : List Nat) : Array UInt8 := (l.map Nat.toUInt8).toArray
noncomputable def nat8 (b : Array UInt8) : List Nat := b.toList.map (·.toNat)
theorem digs_len (s : Nat) : ∀ n, (digs n s).length = s := by
  induction s with
  | zero => intro n; rfl
  | succ s ih => intro n; simp [digs, ih]
theorem digs_lt (s : Nat) : ∀ n, ∀ x ∈ digs n s, x < 256 := by
  induction s with
  | zero => intro n x h; simp [digs] at h
  | succ s ih =>
    intro n x h
    rcases List.mem_cons.mp h with rfl | h
    · lia
    · exact ih _ _ h
theorem num_app (l : List Nat) (x : Nat) : num (l ++ [x]) = num l * 256 + x := by simp [num]
theorem num_digs (s : Nat) : ∀ n, num (digs n s).reverse = n % 256 ^ s := by
  induction s with
  | zero => intro n; simp [digs, num, Nat.mod_one]
  | succ s ih =>
    intro n
    simp only [digs, List.reverse_cons]
    rw [num_app, ih, Nat.pow_succ, Nat.mul_comm (256 ^ s), Nat.mod_mul]
    lia
theorem digs_num : ∀ (l : List Nat), (∀ x ∈ l, x < 256) → digs (num l) l.length = l.reverse := by
  intro l
  induction h : l.length generalizing l with
  | zero => intro _; rw [List.length_eq_zero_iff.mp h]; rfl
  | succ s ih =>
    intro hl
    have hne : l ≠ [] := by rintro rfl; cases h
    obtain ⟨l', x, rfl⟩ : ∃ l' x, l = l' ++ [x] := ⟨l.dropLast, l.getLast hne, (List.dropLast_concat_getLast hne).symm⟩
    have hx := hl x (by simp)
    rw [num_app, List.reverse_append]
    simp only [digs, List.reverse_cons, List.reverse_nil, List.nil_append, List.cons_append]
    have e1 : (num l' * 256 + x) % 256 = x := by lia
    have e2 : (num l' * 256 + x) / 256 = num l' := by lia
    rw [e1, e2, ih l' (by simp at h; lia) fun y hy => hl y (by simp [hy])]
theorem num_lt : ∀ (l : List Nat), (∀ x ∈ l, x < 256) → num l < 256 ^ l.length := by
  intro l
  induction h : l.length generalizing l with
  | zero => intro _; rw [List.length_eq_zero_iff.mp h]; decide
  | succ s ih =>
    intro hl
    have hne : l ≠ [] := by rintro rfl; cases h
    obtain ⟨l', x, rfl⟩ : ∃ l' x, l = l' ++ [x] := ⟨l.dropLast, l.getLast hne, (List.dropLast_concat_getLast hne).symm⟩
    have hx := hl x (by simp)
    have := ih l' (by simp at h; lia) fun y hy => hl y (by simp [hy])
    rw [num_app, Nat.pow_succ]
    lia
theorem nat8_toB {l : List Nat} (h : ∀ x ∈ l, x < 256) : nat8 (toB l) = l := by
  unfold nat8 toB
  rw [List.map_map]
  conv => rhs; rw [← List.map_id l]
  refine List.map_congr_left fun x hx => ?_
  have := h x hx
  simp [Nat.mod_eq_of_lt this]
theorem toB_nat8 (b : Array UInt8) : toB (nat8 b) = b := by
  unfold nat8 toB
  rw [List.map_map]
  have : b.toList.map (Nat.toUInt8 ∘ fun x : UInt8 => x.toNat) = b.toList := by
    conv => rhs; rw [← List.map_id b.toList]
    refine List.map_congr_left fun x _ => ?_
    simp
  rw [this]
theorem nat8_lt (b : Array UInt8) : ∀ x ∈ nat8 b, x < 256 := by
  intro x hx
  obtain ⟨y, _, rfl⟩ := List.mem_map.mp hx
  exact y.toNat_lt
theorem toB_size (l : List Nat) : (toB l).size = l.length := by simp [toB]
theorem byteArr_nat (l : List Nat) : byteArr (l.map fun (x : Nat) => (x : Int)) = toB l := by
  unfold byteArr toB
  rw [List.map_map]
  congr 1
end
section
set_option exponentiation.threshold 5000
theorem lim_small {n : Nat} (h : n ≤ 100000) : n < lim := by
  refine Nat.lt_of_le_of_lt h (Nat.lt_of_lt_of_le (show 100000 < 2 ^ 20 by decide) ?_)
  unfold lim
  exact Nat.pow_le_pow_right (by decide) (by decide)
theorem lim_of {n l : Nat} (h : n < 256 ^ l) (hl : l ≤ 500) : n < lim := by
  refine Nat.lt_trans h ?_
  unfold lim
  rw [show (256 : Nat) = 2 ^ 8 from rfl, ← Nat.pow_mul]
  exact Nat.pow_lt_pow_right (by decide) (by lia)
section
variable {σ : Sg} {a b : Nat} {x y : Str} {H : Hd} {n : Nat} {ρ : Rho}
theorem int_cast : DV.int (a : Int) = dn a := rfl
@[simp] theorem b_add : binV .Add (dn a) (dn b) = some (dn (a + b)) := rfl
theorem b_sub (h : b ≤ a) : binV .Sub (dn a) (dn b) = some (dn (a - b)) := by
  show some (DV.int ((a : Int) - b)) = _
  rw [show (a : Int) - b = ((a - b : Nat) : Int) by lia]; rfl
theorem b_mul (ha : a < lim) (hb : b < lim) : binV .Mult (dn a) (dn b) = some (dn (a * b)) := by
  show (if (a : Int).natAbs < lim ∧ (b : Int).natAbs < lim then some ((a : Int) * b) else none).map DV.int = _
  rw [if_pos ⟨by simpa using ha, by simpa using hb⟩]; rfl
theorem b_div (h0 : 0 < b) (hb : b < lim) : binV .FloorDiv (dn a) (dn b) = some (dn (a / b)) := by
  show (if (0 : Int) < b ∧ (b : Int).natAbs < lim then some ((a : Int) / b) else none).map DV.int = _
  rw [if_pos ⟨by lia, by simpa using hb⟩]; rfl
theorem b_mod (h0 : 0 < b) : binV .Mod (dn a) (dn b) = some (dn (a % b)) := by
  show (if (0 : Int) < b then some ((a : Int) % b) else none).map DV.int = _
  rw [if_pos (by lia)]; rfl
theorem b_modZ (i : Int) (h0 : 0 < b) : binV .Mod (.int i) (dn b) = some (dn (i % b).toNat) := by
  show (if (0 : Int) < b then some (i % b) else none).map DV.int = _
  rw [if_pos (by lia)]
  show some (DV.int (i % b)) = some (DV.int (((i % b).toNat : Nat) : Int))
  rw [Int.toNat_of_nonneg (Int.emod_nonneg _ (by lia))]
theorem b_pow (ha : a < 2 ^ 64) (hb : b ≤ big) : binV .Pow (dn a) (dn b) = some (dn (a ^ b)) := by
  show (if (0 : Int) ≤ b ∧ (b : Int) ≤ big ∧ (a : Int).natAbs < 2 ^ 64 then some ((a : Int) ^ (b : Int).toNat) else none).map DV.int = _
  rw [if_pos ⟨by lia, by lia, by simpa using ha⟩, Int.toNat_natCast]
  show some (DV.int ((a : Int) ^ b)) = some (DV.int ((a ^ b : Nat) : Int))
  rw [Int.natCast_pow]
theorem b_shl (ha : a < lim) (hb : b ≤ big) : binV .LShift (dn a) (dn b) = some (dn (a * 2 ^ b)) := by
  show (if (a : Int).natAbs < lim ∧ (0 : Int) ≤ b ∧ (b : Int) ≤ big then some ((a : Int) * 2 ^ (b : Int).toNat) else none).map DV.int = _
  rw [if_pos ⟨by simpa using ha, by lia, by lia⟩, Int.toNat_natCast]
  show some (DV.int ((a : Int) * 2 ^ b)) = some (DV.int ((a * 2 ^ b : Nat) : Int))
  rw [Int.natCast_mul, Int.natCast_pow]; rfl
@[simp] theorem b_shr : binV .RShift (dn a) (dn b) = some (dn (a / 2 ^ b)) := by
  show (if (0 : Int) ≤ b then some ((a : Int) / 2 ^ (b : Int).toNat) else none).map DV.int = _
  rw [if_pos (by lia), Int.toNat_natCast]
  show some (DV.int ((a : Int) / 2 ^ b)) = some (DV.int ((a / 2 ^ b : Nat) : Int))
  rw [Int.natCast_ediv, Int.natCast_pow]; rfl
@[simp] theorem b_and : binV .BitAnd (dn a) (dn b) = some (dn (a &&& b)) := by
  show some (DV.int (Builtin.bitAnd a b)) = _
  rw [bitAnd_pp (by lia) (by lia)]; rfl
theorem or_nat (a b : Nat) : Builtin.bitOr (a : Int) b = ((a ||| b : Nat) : Int) := by
  rw [bitOr_and, bitAnd_pp (by lia) (by lia), Int.toNat_natCast, Int.toNat_natCast]
  have := nat_or_add_and a b
  lia
@[simp] theorem b_or : binV .BitOr (dn a) (dn b) = some (dn (a ||| b)) := by
  show some (DV.int (Builtin.bitOr a b)) = _
  rw [or_nat]; rfl
theorem xor_add (m : Nat) : ∀ n : Nat, (m ^^^ n) + (m &&& n) = (m ||| n) := by
  induction m using Nat.strongRecOn with
  | ind m ih =>
    intro n
    by_cases h0 : m = 0
    · subst h0; simp
    · have ih' := ih (m / 2) (by lia) (n / 2)
      rw [← Nat.or_div_two, ← Nat.and_div_two, ← Nat.xor_div_two] at ih'
      have o1 := @Nat.or_mod_two_eq_one m n
      have a1 := @Nat.and_mod_two_eq_one m n
      have x1 : (m ^^^ n) % 2 = 1 ↔ ¬ (m % 2 = 1 ↔ n % 2 = 1) := by
        have := Nat.testBit_xor m n 0
        simp only [Nat.testBit_zero] at this
        by_cases hm : m % 2 = 1 <;> by_cases hn : n % 2 = 1 <;> simp_all
      lia
@[simp] theorem b_xor : binV .BitXor (dn a) (dn b) = some (dn (a ^^^ b)) := by
  show some (DV.int (Builtin.bitXor a b)) = _
  unfold Builtin.bitXor
  rw [or_nat, bitAnd_pp (by lia) (by lia), Int.toNat_natCast, Int.toNat_natCast]
  have := xor_add a b
  rw [show ((a ||| b : Nat) : Int) - ((a &&& b : Nat) : Int) = ((a ^^^ b : Nat) : Int) by lia]; rfl
@[simp] theorem fin_false {d : DV} : fin false d σ = some (d, σ) := rfl
@[simp] theorem asB_bool {b : Bool} : asB (.bool b) = some b := rfl
@[simp] theorem c_eq : cmpV σ .Eq (dn a) (dn b) = some (decide (a = b)) := by
  show some (decide ((a : Int) = b)) = _
  congr 1; exact decide_eq_decide.mpr (by lia)
@[simp] theorem c_ne : cmpV σ .NotEq (dn a) (dn b) = some (decide (a ≠ b)) := by
  show some (decide ((a : Int) ≠ b)) = _
  congr 1; exact decide_eq_decide.mpr (by lia)
@[simp] theorem c_lt : cmpV σ .Lt (dn a) (dn b) = some (decide (a < b)) := by
  show some (decide ((a : Int) < b)) = _
  congr 1; exact decide_eq_decide.mpr (by lia)
@[simp] theorem c_le : cmpV σ .LtE (dn a) (dn b) = some (decide (a ≤ b)) := by
  show some (decide ((a : Int) ≤ b)) = _
  congr 1; exact decide_eq_decide.mpr (by lia)
@[simp] theorem c_gt : cmpV σ .Gt (dn a) (dn b) = some (decide (b < a)) := by
  show some (decide ((b : Int) < a)) = _
  congr 1; exact decide_eq_decide.mpr (by lia)
@[simp] theorem c_ge : cmpV σ .GtE (dn a) (dn b) = some (decide (b ≤ a)) := by
  show some (decide ((b : Int) ≤ a)) = _
  congr 1; exact decide_eq_decide.mpr (by lia)
@[simp] theorem c_eqs : cmpV σ .Eq (.str x) (.str y) = some (decide (x = y)) := rfl
@[simp] theorem c_nes : cmpV σ .NotEq (.str x) (.str y) = some (!decide (x = y)) := rfl
@[simp] theorem c_nee : cmpV σ .NotEq .none .none = some false := rfl
@[simp] theorem c_ens : cmpV σ .Eq .none (.str y) = some false := rfl
@[simp] theorem c_eis : cmpV σ .Eq (dn a) (.str y) = some false := rfl
@[simp] theorem c_is0 : cmpV σ .Is .none .none = some true := rfl
@[simp] theorem c_is1 : cmpV σ .Is (dn a) .none = some false := rfl
@[simp] theorem c_is2 {l : List DV} : cmpV σ .Is (.tup l) .none = some false := rfl
@[simp] theorem c_is3 {b : Array UInt8} : cmpV σ .Is (.bytes b) .none = some false := rfl
@[simp] theorem c_is4 {a : Addr} : cmpV σ .Is (.con (.ref a)) .none = some false := rfl
@[simp] theorem c_in0 : cmpV σ .IsNot .none .none = some false := rfl
@[simp] theorem c_in2 {l : List DV} : cmpV σ .IsNot (.tup l) .none = some true := rfl
@[simp] theorem c_intup {l : List DV} : cmpV σ .In (.str x) (.tup l) = (strsL l).map fun ss => decide (x ∈ ss) := rfl
@[simp] theorem c_inlst {l : List DV} : cmpV σ .In (.str x) (.lst l) = (strsL l).map fun ss => decide (x ∈ ss) := rfl
@[simp] theorem c_notin {d : DV} : cmpV σ .NotIn (.str x) d = (inV σ (.str x) d).map (!·) := rfl
@[simp] theorem c_eqtup {l m : List DV} : cmpV σ .Eq (.tup l) (.tup m) = (strsL l).bind fun a => (strsL m).bind fun b => some (decide (a = b)) := rfl
@[simp] theorem strsL_nil : strsL [] = some [] := rfl
@[simp] theorem strsL_cons {l : List DV} : strsL (.str x :: l) = (strsL l).map (x :: ·) := rfl
theorem dict_loc {i : Nat} {ks : List Str} {l : List DV} (h : σ[i]? = some (.dict ks l)) : dictOf' σ (.loc i) = some (ks, l) := by
  show (σ[i]?).bind diO = _
  rw [h]; rfl
theorem in_loc {i : Nat} {ks : List Str} {l : List DV} (h : σ[i]? = some (.dict ks l)) : inV σ (.str x) (.loc i) = some (decide (x ∈ ks)) := by
  show (dictOf' σ (.loc i)).map (fun p => decide (x ∈ p.1)) = _
  rw [dict_loc h]; rfl
@[simp] theorem dict_dct {ks : List Str} {l : List DV} : dictOf' σ (.dct ks l) = some (ks, l) := rfl
theorem items_loc {i : Nat} {l : List DV} (h : σ[i]? = some (.list l)) : items σ (.loc i) = some l := by
  show (σ[i]?).bind liO = _
  rw [h]; rfl
theorem bytes_loc {i : Nat} {b : Array UInt8} (h : σ[i]? = some (.ba b)) : bytesOf σ (.loc i) = some b := by
  show (σ[i]?).bind byO = _
  rw [h]; rfl
theorem items_ba {i : Nat} {b : Array UInt8} (h : σ[i]? = some (.ba b)) : items σ (.loc i) = none := by
  show (σ[i]?).bind liO = _
  rw [h]; rfl
theorem nth_nat {l : List DV} (h : a < big) : nth l (a : Int) = l[a]? := by
  unfold nth; rw [if_pos (by lia), if_pos (by lia)]; rfl
theorem subV_int {d : DV} {i : Int} : subV σ d (.int i) = (tupD d).elim ((bytD d).elim ((items σ d).bind fun l => nth l i) fun b => if 0 ≤ i ∧ b.size ≤ big then (b[i.toNat]?).map fun x => .int x.toNat else none) fun l => if 0 ≤ i then nth l i else none := rfl
theorem n_tup {l : List DV} (h : a < big) : subV σ (.tup l) (dn a) = l[a]? := by
  rw [dn, subV_int, show tupD (.tup l) = some l from rfl, Option.elim_some, if_pos (by lia), nth_nat h]
theorem n_lst {l : List DV} (h : a < big) : subV σ (.lst l) (dn a) = l[a]? := by
  rw [dn, subV_int, show tupD (.lst l) = none from rfl, Option.elim_none, show bytD (.lst l) = none from rfl, Option.elim_none, show items σ (.lst l) = some l from rfl, Option.bind_some, nth_nat h]
theorem n_loc {l : List DV} {i : Nat} (hi : σ[i]? = some (.list l)) (h : a < big) : subV σ (.loc i) (dn a) = l[a]? := by
  have e : subV σ (.loc i) (dn a) = (items σ (.loc i)).bind fun l => nth l (a : Int) := rfl
  rw [e, items_loc hi, Option.bind_some, nth_nat h]
@[simp] theorem n_dstr {d : DV} : subV σ d (.str x) = (dictOf' σ d).bind fun p => lookD x p.1 p.2 := rfl
@[simp] theorem ev_neg1 : ev H (n + 2) (.neg (.k (dn 1))) ρ σ = some (.int (-1), σ) := rfl
theorem len_items {d : DV} {l : List DV} (h1 : tupD d = none) (h2 : bytD d = none) (h : items σ d = some l) (hl : l.length ≤ big) : primV σ .len [d] = some (dn l.length) := by
  show lenV σ d = _
  rw [lenV, h1, Option.elim_none, h2, Option.elim_none, h, Option.elim_some, if_pos hl]; rfl
theorem meth_of {i : Nat} {ks : List Str} {l : List DV} {C : Addr} {nm : Str} (h : σ[i]? = some (.dict ks l)) (hn : nm ∉ ks) : methV σ C nm (.inst C i) = some true :=
  (if_pos rfl).trans (bnd (dict_loc h) (if_neg hn))
theorem att_of {i : Nat} {ks : List Str} {l : List DV} {C : Addr} {nm : Str} {d : DV} (h : σ[i]? = some (.dict ks l)) (e : lookD nm ks l = some d) : attV σ (.inst C i) nm = some d := bnd (show instD (.inst C i) = some (C, i) from rfl) (bnd (dict_loc h) e)
theorem key_of {i : Nat} {ks : List Str} {l : List DV} {d : DV} (h : σ[i]? = some (.dict ks l)) (e : lookD x ks l = some d) : subV σ (.loc i) (.str x) = some d := bnd (dict_loc h) e
theorem get_of {i : Nat} {ks : List Str} {l : List DV} (h : σ[i]? = some (.dict ks l)) : getV σ (.loc i) (.str x) = some ((lookD x ks l).getD .none) := bnd (show strD (.str x) = some x from rfl) (bnd (dict_loc h) rfl)
theorem dctQ_of {i : Nat} {ks : List Str} {l : List DV} (h : σ[i]? = some (.dict ks l)) : dctQ σ (.loc i) = some true := by rw [dctQ, dict_loc h]; rfl
theorem appQ_of {i : Nat} {l : List DV} (h : σ[i]? = some (.list l)) : appQ σ (.loc i) = some true := by
  show (items σ (.loc i)).map (fun _ => true) = _
  rw [items_loc h]; rfl
theorem cB {o : Option Bool} {p : Prop} [Decidable p] (e : o = some (decide p)) (h : p) : o = some true := e.trans (congrArg some (decide_eq_true h))
theorem cN {o : Option Bool} {p : Prop} [Decidable p] (e : o = some (decide p)) (h : ¬ p) : o = some false := e.trans (congrArg some (decide_eq_false h))
theorem sEq (x : Str) : cmpV σ .Eq (.str x) (.str x) = some true := cB c_eqs rfl
theorem sNe (h : ¬ x = y) : cmpV σ .Eq (.str x) (.str y) = some false := cN c_eqs h
theorem appV_of {i : Nat} {l : List DV} {d : DV} (h : σ[i]? = some (.list l)) (hb : l.length ≤ 1000) : appV σ (.loc i) d = some (.none, σ.set i (.list (l ++ [d]))) :=
  bnd (show locD (.loc i) = some i from rfl) (bnd (show listAt σ i = some l by rw [listAt, h]; rfl) (if_pos (Nat.le_trans hb (by decide))))
theorem get_of' {i : Nat} {ks : List Str} {l : List DV} {d : DV} (h : σ[i]? = some (.dict ks l)) (e : lookD x ks l = some d) : getV σ (.loc i) (.str x) = some d := (get_of h).trans (by rw [e]; rfl)
theorem b_low (a b : Nat) : binV .BitAnd (dn a) (dn (2 ^ b - 1)) = some (dn (a % 2 ^ b)) := b_and.trans (by rw [Nat.and_two_pow_sub_one_eq_mod])
theorem dct_key {ks : List Str} {l : List DV} {d : DV} (e : lookD x ks l = some d) : subV σ (.dct ks l) (.str x) = some d := n_dstr.trans (bnd (show dictOf' σ (.dct ks l) = some (ks, l) from rfl) e)
end
end
section
section
variable {k : Nat} {σ : Sg}
theorem and_shift (a x : Nat) (h : x < 256) : (a * 256) &&& x = 0 := by
  refine Nat.eq_of_testBit_eq fun i => ?_
  rw [Nat.testBit_and, show (256 : Nat) = 2 ^ 8 from rfl, Nat.testBit_mul_two_pow, Nat.zero_testBit]
  by_cases hi : 8 ≤ i
  · have : x.testBit i = false := Nat.testBit_lt_two_pow (Nat.lt_of_lt_of_le h (Nat.pow_le_pow_right (n := 2) (by decide) hi))
    rw [this, Bool.and_false]
  · simp [hi]
theorem or_shift (a x : Nat) (h : x < 256) : (a * 2 ^ 8) ||| x = a * 256 + x := by
  have := nat_or_add_and (a * 256) x
  rw [and_shift a x h] at this
  exact this
theorem for_of {H : Hd} {n : Nat} {vs : List Nat} {ik : IK} {src : IE} {b : List IS} {ρ : Rho} {σ₁ : Sg} {d : DV} {its : List (List DV)} {o : Out} (h1 : ev H n src ρ σ = some (d, σ₁)) (h2 : itemsOf ik d = some its) (h3 : its.length ≤ big)
    (h4 : forL (fun x ρ' s => (setAll ρ' vs x).bind fun ρ'' => exL (ex H n) b ρ'' s) its ρ σ₁ = o) : ex H (n + 1) (.for_ vs ik src b) ρ σ = o := by
  simp [ex_for, h1, h2, h3, h4]
theorem forL_step {f : List DV → Rho → Sg → Out} {x : List DV} {r : List (List DV)} {ρ ρ₁ : Rho} {σ₁ : Sg} (h : f x ρ σ = some (.next, ρ₁, σ₁)) : forL f (x :: r) ρ σ = forL f r ρ₁ σ₁ := by
  simp [forL, h]
theorem compL_map {f : List DV → Sg → Option (DV × Sg)} {g : List DV → DV} : ∀ {its : List (List DV)}, (∀ x ∈ its, f x σ = some (g x, σ)) → compL f its σ = some (its.map g, σ)
  | [], _ => rfl
  | x :: r, h => by
    have h2 := compL_map (its := r) fun y hy => h y (by simp [hy])
    simp [compL, h x (by simp), h2]
theorem comp_of {H : Hd} {n : Nat} {ik : IK} {src elt : IE} {vs : List Nat} {ρ : Rho} {d : DV} {its : List (List DV)} (g : List DV → DV) (h1 : ev H n src ρ σ = some (d, σ)) (h2 : itemsOf ik d = some its) (h3 : its.length ≤ big)
    (h4 : ∀ x ∈ its, ((setAll ρ vs x).bind fun ρ' => ev H n elt ρ' σ) = some (g x, σ)) : ev H (n + 1) (.comp ik src vs elt) ρ σ = some (.lst (its.map g), σ) := by
  rw [ev_comp, h1, Option.bind_some, h2, Option.bind_some, if_pos h3]
  rw [compL_map (f := fun x s => (setAll ρ vs x).bind fun ρ' => ev H n elt ρ' s) (g := g) h4]; rfl
theorem comp_range {H : Hd} {n : Nat} {src elt : IE} {v m : Nat} {ρ : Rho} (g : Nat → DV) (h1 : ev H n src ρ σ = some (dn m, σ)) (h3 : m ≤ big) (hv : v < ρ.length)
    (h4 : ∀ q < m, ev H n elt (ρ.set v (some (dn q))) σ = some (g q, σ)) : ev H (n + 1) (.comp .range src [v] elt) ρ σ = some (.lst ((List.range m).map g), σ) := by
  have hb : (m : Int) ≤ (big : Int) := by lia
  have e := comp_of (σ := σ) (H := H) (n := n) (ik := .range) (src := src) (elt := elt) (vs := [v]) (ρ := ρ) (d := dn m) (its := (List.range m).map fun (q : Nat) => [DV.int (q : Int)]) (fun x => g (((x.head?.bind intD).getD 0).toNat)) h1
    (by show (if (0 : Int) ≤ m ∧ (m : Int) ≤ big then _ else _) = _; rw [if_pos ⟨by lia, hb⟩, Int.toNat_natCast]) (by simpa using h3) fun x hx => by
      obtain ⟨q, hq, rfl⟩ := List.mem_map.mp hx
      simp only [setAll, hv, if_true, Option.bind_some, Int.toNat_natCast]
      exact h4 q (List.mem_range.mp hq)
  rw [e, List.map_map]
  rfl
theorem num_loop {f : List DV → Rho → Sg → Out} (d : DV) (hf : ∀ (x acc : Nat) (z : Option DV), x < 256 → acc < lim → f [dn x] [some d, some (dn acc), z, none, none] σ = some (.next, [some d, some (dn (acc * 256 + x)), some (dn x), none, none], σ)) :
    ∀ (l : List Nat) (p : List Nat) (z : Option DV), (∀ x ∈ p ++ l, x < 256) → (p ++ l).length ≤ 300 →
    forL f (l.map fun x => [dn x]) [some d, some (dn (num p)), z, none, none] σ = some (.next, [some d, some (dn (num (p ++ l))), l.foldl (fun _ x => some (dn x)) z, none, none], σ)
  | [], p, z, _, _ => by simp [forL]
  | x :: l, p, z, hx, hl => by
    have h1 : num p < lim := lim_of (num_lt p fun y hy => hx y (by simp [hy])) (by simp at hl; lia)
    have h := num_loop d hf l (p ++ [x]) (some (dn x)) (by simpa using hx) (by simpa using hl)
    rw [List.append_assoc, num_app] at h
    exact (forL_step (hf x (num p) z (hx x (by simp)) h1)).trans h
theorem h_number (b : Array UInt8) (hb : b.size ≤ 300) (d : DV) (hd : d = .bytes b ∨ d = .ba b) : HH (k + 1) 121 [d] σ = some (dn (num (nat8 b)), σ) := by
  have hi : itemsOf .seq d = some ((nat8 b).map fun x => [dn x]) := by
    unfold nat8
    rw [List.map_map]
    rcases hd with rfl | rfl <;> rfl
  have hz : (nat8 b).length ≤ 300 := by simpa [nat8] using hb
  have hbig : (nat8 b).length ≤ big := Nat.le_trans hz (by decide)
  have hb8 : 8 ≤ big := by decide
  have hloop : ex (HH k) 64 (.for_ [2] .seq (.v 0) [.asg (.nm 1) (.bin false .BitOr (.bin false .LShift (.v 1) (.k (dn 8))) (.v 2))]) [some d, some (dn 0), none, none, none] σ = some (.next, [some d, some (dn (num (nat8 b))), (nat8 b).foldl (fun _ x => some (dn x)) none, none, none], σ) := by
    refine for_of (d := d) (σ₁ := σ) rfl hi (by simpa using hbig) (num_loop d (fun x acc z hx ha => ?_) (nat8 b) [] none (by simpa using nat8_lt b) (by simpa using hz))
    show exL (ex (HH k) 63) [.asg (.nm 1) (.bin false .BitOr (.bin false .LShift (.v 1) (.k (dn 8))) (.v 2))] [some d, some (dn acc), some (dn x), none, none] σ = _
    exact walkL (.v _ :: .v _ :: []) fun w => w (b_shl ha hb8) (b_or.trans (congrArg (fun x => some (dn x)) (or_shift acc x hx)))
  rw [h121]
  exact walk (.s _ _ _ :: []) fun w => w hloop
theorem digs_eq (s : Nat) : ∀ n, digs n s = (List.range s).map fun i => n / 256 ^ i % 256 := by
  induction s with
  | zero => intro n; rfl
  | succ s ih =>
    intro n
    rw [List.range_succ_eq_map, List.map_cons, List.map_map]
    simp only [digs, ih]
    congr 1
    · simp
    · refine List.map_congr_left fun i _ => ?_
      simp only [Function.comp_apply]
      rw [Nat.div_div_eq_div_mul, Nat.pow_succ, Nat.mul_comm]
theorem digs_rev (n s : Nat) : (digs n s).reverse = (List.range s).map fun p => n / 256 ^ (s - 1 - p) % 256 := by
  rw [digs_eq]
  refine List.ext_getElem (by simp) fun i h1 h2 => ?_
  simp at h1
  simp [List.getElem_reverse]
theorem and255 (x : Nat) : x &&& 255 = x % 256 := Nat.and_two_pow_sub_one_eq_mod x 8
theorem pow256 (s : Nat) : (256 : Nat) ^ s = 2 ^ (8 * s) := by rw [Nat.pow_mul]
theorem intsL_dn (f : Nat → Nat) : ∀ l : List Nat, intsL (l.map fun x => dn (f x)) = some (l.map fun x => ((f x : Nat) : Int))
  | [] => rfl
  | x :: l => by
    show (intsL (l.map fun x => dn (f x))).map (((f x : Nat) : Int) :: ·) = _
    rw [intsL_dn f l]; rfl
theorem ints_dn (l : List Nat) (h : ∀ x ∈ l, x < 256) : intsL (l.map dn) = some (l.map fun (x : Nat) => (x : Int)) ∧ ∀ n ∈ (l.map fun (x : Nat) => (x : Int)), 0 ≤ n ∧ n < 256 := by
  refine ⟨intsL_dn id l, fun n hn => ?_⟩
  obtain ⟨x, hx, rfl⟩ := List.mem_map.mp hn
  have := h x hx
  lia
theorem p_bytes (l : List Nat) (h : ∀ x ∈ l, x < 256) (hl : l.length ≤ big) : primV σ .bytes [.lst (l.map dn)] = some (.bytes (toB l)) := by
  obtain ⟨e, hc⟩ := ints_dn l h
  show (octsV (l.map dn)).map _ = _
  rw [octsV, e, Option.bind_some, if_pos ⟨hc, by simpa using hl⟩, byteArr_nat]; rfl
theorem p_bytearray (l : List Nat) (h : ∀ x ∈ l, x < 256) (hl : l.length ≤ big) : primV σ .bytearray [.lst (l.map dn)] = some (.ba (toB l)) := by
  obtain ⟨e, hc⟩ := ints_dn l h
  show (octsV (l.map dn)).map _ = _
  rw [octsV, e, Option.bind_some, if_pos ⟨hc, by simpa using hl⟩, byteArr_nat]; rfl
theorem h_octets {n s : Nat} (hn : n < 256 ^ s) (hs : s ≤ 300) : HH (k + 1) 126 [dn n, dn s] σ = some (.bytes (toB (digs n s).reverse), σ) := by
  have l8 : (8 : Nat) < lim := lim_small (by decide)
  have ls : s < lim := lim_small (by lia)
  have hz : n / 2 ^ (8 * s) = 0 := Nat.div_eq_of_lt (by rw [← pow256]; exact hn)
  have hbig : s ≤ big := Nat.le_trans hs (by decide)
  have hcomp : ev (HH k) 62 (.comp .range (.v 1) [2] (.bin false .BitAnd (.bin false .RShift (.v 0) (.bin false .Mult (.k (dn 8)) (.bin false .Sub (.bin false .Sub (.v 1) (.k (dn 1))) (.v 2)))) (.k (dn 255)))) [some (dn n), some (dn s), none, none] σ =
      some (.lst ((digs n s).reverse.map dn), σ) := by
    rw [comp_range (m := s) (fun q => dn (n / 256 ^ (s - 1 - q) % 256)) rfl hbig (by simp) fun q hq => ?_, digs_rev, List.map_map]
    · rfl
    · have l2 : s - 1 - q < lim := lim_small (by lia)
      have f : binV .BitAnd (dn (n / 2 ^ (8 * (s - 1 - q)))) (dn 255) = some (dn (n / 256 ^ (s - 1 - q) % 256)) := by rw [b_and, and255, pow256]
      exact walkE (.v _ :: .v _ :: .v _ :: .v _ :: .v _ :: []) fun w => w (b_sub (show 1 ≤ s by lia)) (b_sub (show q ≤ s - 1 by lia)) (b_mul l8 l2) b_shr f
  rw [h126]
  exact walk (.b _ :: .v _ :: .v _ :: .b _ :: .c _ _ :: .v _ :: []) fun w => w (cN c_lt (Nat.not_lt_zero _)) (b_mul l8 ls) b_shr (cN c_ne fun h => h hz) hcomp (p_bytes (digs n s).reverse (fun x hx => digs_lt s n x (List.mem_reverse.mp hx)) (by rw [List.length_reverse, digs_len]; exact hbig))
theorem h_turned (l : List Nat) (hl : ∀ x ∈ l, x < 256) (h0 : l ≠ []) (hz : l.length ≤ 300) : HH (k + 1) 131 [.bytes (toB l)] σ = some (.bytes (toB l.reverse), σ) := by
  have hp : 0 < l.length := List.length_pos_iff.mpr h0
  have hbig : l.length ≤ big := Nat.le_trans hz (by decide)
  have hlen : primV σ .len [.bytes (toB l)] = some (dn l.length) := by
    show (if (toB l).size ≤ big then some (DV.int (toB l).size) else none) = _
    rw [toB_size, if_pos hbig]; rfl
  have hsrc : ev (HH k) 61 (.bin false .Add (.v 1) (.k (dn 1))) [some (.bytes (toB l)), some (dn (l.length - 1)), none, none] σ = some (dn l.length, σ) := walkE (.v _ :: []) fun w => w (b_add.trans (congrArg (fun x => some (dn x)) (Nat.sub_add_cancel hp)))
  have hcomp : ev (HH k) 62 (.comp .range (.bin false .Add (.v 1) (.k (dn 1))) [2] (.sub (.v 0) (.bin false .Sub (.v 1) (.v 2)))) [some (.bytes (toB l)), some (dn (l.length - 1)), none, none] σ = some (.lst (l.reverse.map dn), σ) := by
    rw [comp_range (m := l.length) (fun q => dn (l.getD (l.length - 1 - q) 0)) hsrc hbig (by simp) fun q hq => ?_]
    · congr 2
      refine congrArg DV.lst (List.ext_getElem (by simp) fun i h1 h2 => ?_)
      simp at h1
      have : l.length - 1 - i < l.length := by lia
      simp [List.getElem_reverse, List.getD_eq_getElem?_getD, this]
    · have hlt : l.length - 1 - q < l.length := by lia
      have hsub : subV σ (.bytes (toB l)) (dn (l.length - 1 - q)) = some (dn (l.getD (l.length - 1 - q) 0)) := by
        show (if (0 : Int) ≤ (l.length - 1 - q : Nat) ∧ (toB l).size ≤ big then ((toB l)[((l.length - 1 - q : Nat) : Int).toNat]?).map fun x => DV.int x.toNat else none) = _
        rw [if_pos ⟨by lia, by rw [toB_size]; exact hbig⟩, Int.toNat_natCast]
        have hx := hl (l[l.length - 1 - q]) (List.getElem_mem hlt)
        simp [toB, hlt, List.getD_eq_getElem?_getD, Nat.mod_eq_of_lt hx]
        rfl
      exact walkE (.v _ :: .v _ :: []) fun w => w (b_sub (show q ≤ l.length - 1 by lia)) hsub
  rw [h131]
  exact walk (.v _ :: .v _ :: .c _ _ :: .v _ :: []) fun w => w hlen (b_sub hp) hcomp (p_bytes l.reverse (fun x hx => hl x (List.mem_reverse.mp hx)) (by rw [List.length_reverse]; exact hbig))
theorem h_host_order (x y : Str) : HH (k + 1) 145 [.str x, .str y] σ = some (.str (if x = "host" then y else x), σ) := by
  rw [h145]
  by_cases h : x = "host"
  · rw [if_pos h]; exact walk (.b _ :: []) fun w => w (cB c_eqs h)
  · rw [if_neg h]; exact walk (.b _ :: []) fun w => w (cN c_eqs h)
noncomputable def enc (little : Bool) (n s : Nat) : List Nat := if little then digs n s else (digs n s).reverse
theorem enc_lt (little : Bool) (n s : Nat) : ∀ x ∈ enc little n s, x < 256 := by
  intro x hx; unfold enc at hx
  split at hx <;> exact digs_lt s n x (by simpa using hx)
theorem enc_len (little : Bool) (n s : Nat) : (enc little n s).length = s := by
  unfold enc; split <;> simp [digs_len]
noncomputable def ordS (little : Bool) : Str := if little then "little" else "big"
theorem h_host_octets {n s : Nat} (little : Bool) (hn : n < 256 ^ s) (h0 : 0 < s) (hs : s ≤ 300) : HH (k + 2) 138 [dn n, dn s, .str (ordS little)] σ = some (.bytes (toB (enc little n s)), σ) := by
  rw [h138]
  have ho := h_octets (k := k) (σ := σ) hn hs
  cases little with
  | false => exact walk (.b _ :: .c _ _ :: []) fun w => w (sEq "big") ho
  | true =>
    have ht := h_turned (k := k) (σ := σ) (digs n s).reverse (fun x hx => digs_lt s n x (by simpa using hx)) (by intro e; have := congrArg List.length e; simp [digs_len] at this; lia) (by simpa [digs_len] using hs)
    rw [List.reverse_reverse] at ht
    have hne : ¬ (("little" : Str) = "big") := by decide
    exact walk (.b _ :: .b _ :: .c _ _ :: .c _ _ :: []) fun w => w (sNe hne) (sEq "little") ho ht
end
end
section
section
variable {k : Nat} {σ : Sg}
noncomputable def negP (p : DV × Sg) : Option (DV × Sg) := (intD p.1).bind fun i => some (.int (-i), p.2)
theorem ev_neg' {H : Hd} {n : Nat} {a : IE} {ρ : Rho} : ev H (n + 1) (.neg a) ρ σ = (ev H n a ρ σ).bind negP := rfl
theorem negP_dn (l : Nat) : negP (dn l, σ) = some (.int (-(l : Int)), σ) := rfl
noncomputable def padl (l : Nat) : Nat := (4 - l % 4) % 4
theorem p_len_b (l : List Nat) (h : l.length ≤ 300) : primV σ .len [.bytes (toB l)] = some (dn l.length) := by
  show (if (toB l).size ≤ big then some (DV.int (toB l).size) else none) = _
  rw [toB_size, if_pos (Nat.le_trans h (by decide))]; rfl
theorem toB_app (l m : List Nat) : toB l ++ toB m = toB (l ++ m) := by simp [toB]
theorem pad_mod (n : Nat) : ((-(n : Int)) % 4).toNat = padl n := ar_pad n
theorem mod_pad (n : Nat) : binV .Mod (.int (-(n : Int))) (dn 4) = some (dn (padl n)) := (b_modZ _ (by decide)).trans (congrArg (fun x => some (dn x)) (pad_mod n))
theorem h_pad4 (l : List Nat) (h : l.length ≤ 300) : HH (k + 1) 152 [.bytes (toB l)] σ = some (.bytes (toB (l ++ List.replicate (padl l.length) 0)), σ) := by
  have hp : padl l.length ≤ 3 := by unfold padl; lia
  have hmul : binV .Mult (.bytes #[0]) (dn (padl l.length)) = some (.bytes (toB (List.replicate (padl l.length) 0))) := by
    show (if Operator.Mult = Operator.Mult ∧ (#[0] : Array UInt8).size = 1 ∧ (0 : Int) ≤ (padl l.length : Nat) ∧ ((padl l.length : Nat) : Int) ≤ 1000 then some (DV.bytes (Array.replicate ((padl l.length : Nat) : Int).toNat ((#[0] : Array UInt8).getD 0 0))) else none) = _
    rw [if_pos ⟨rfl, rfl, by lia, by lia⟩, Int.toNat_natCast]
    congr 2
    simp [toB]
  have hadd : binV .Add (.bytes (toB l)) (.bytes (toB (List.replicate (padl l.length) 0))) = some (.bytes (toB (l ++ List.replicate (padl l.length) 0))) := by
    show (if Operator.Add = Operator.Add ∧ (toB l).size + (toB (List.replicate (padl l.length) 0)).size ≤ big then some (DV.bytes (toB l ++ toB (List.replicate (padl l.length) 0))) else none) = _
    have hb : (100000 : Nat) = big := rfl
    rw [if_pos ⟨rfl, by rw [toB_size, toB_size, List.length_replicate]; lia⟩, toB_app]
  have hbt : primV σ .bytes [.bytes (toB l)] = some (.bytes (toB l)) := rfl
  rw [h152]
  exact walk (.v _ :: .v _ :: .v _ :: .v _ :: .v _ :: []) fun w => w hbt (p_len_b l h) (mod_pad _) hmul hadd
theorem toB_pick (R : List Nat) (a e : Nat) (ha : a ≤ e) (he : e ≤ R.length) : baPick (toB R) (some (a : Int)) (some (e : Int)) = toB ((R.drop a).take (e - a)) := by
  rw [baPick_nn _ _ _ ha (by rw [toB_size]; exact he)]
  simp [toB, List.map_drop, List.map_take]
structure Rg (σ : Sg) (iR iO : Nat) (R : List Nat) : Prop where
  d : σ[iR]? = some (.dict ["octets"] [.loc iO])
  o : σ[iO]? = some (.ba (toB R))
  n : R.length = 64
  b : ∀ x ∈ R, x < 256
theorem h_get {iR iO r m : Nat} {R : List Nat} (G : Rg σ iR iO R) (h : 4 * r + m ≤ 64) : HH (k + 1) 419 [.inst 429 iR, dn r, dn m] σ = some (.bytes (toB ((R.drop (4 * r)).take m)), σ) := by
  have hb : (64 : Nat) ≤ big := by decide
  have l4 : (4 : Nat) < lim := lim_small (by decide)
  have lr : r < lim := lim_small (by lia)
  have hlk : lookD "octets" ["octets"] [DV.loc iO] = some (.loc iO) := rfl
  have hsl : sliceV σ (.loc iO) (dn (4 * r)) (dn (4 * r + m)) .none = some (.ba (toB ((R.drop (4 * r)).take m))) := by
    have hp := toB_pick R (4 * r) (4 * r + m) (by lia) (by rw [G.n]; exact h)
    rw [show 4 * r + m - 4 * r = m by lia] at hp
    unfold sliceV
    rw [show partV (dn (4 * r)) = some (some ((4 * r : Nat) : Int)) from rfl, show partV (dn (4 * r + m)) = some (some ((4 * r + m : Nat) : Int)) from rfl, show partV .none = some none from rfl]
    simp only [Option.bind_some]
    rw [items_ba G.o, Option.elim_none, bytes_loc G.o, Option.bind_some, hp, if_pos]
    refine ⟨?_, trivial⟩
    rw [toB_size]
    refine Nat.le_trans ?_ hb
    simp; lia
  have hbt : primV σ .bytes [.ba (toB ((R.drop (4 * r)).take m))] = some (.bytes (toB ((R.drop (4 * r)).take m))) := by
    show (if (toB ((R.drop (4 * r)).take m)).size ≤ big then _ else _) = _
    rw [if_pos]
    rw [toB_size]
    refine Nat.le_trans ?_ hb
    simp; lia
  rw [h419]
  have mu := b_mul l4 lr
  exact walk (.b _ :: .v _ :: .v _ :: .b _ :: .v _ :: .v _ :: .v _ :: .v _ :: .v _ :: .v _ :: []) fun w => w (cN c_lt (Nat.not_lt_zero _)) mu b_add (cN c_gt (Nat.not_lt.mpr h)) (att_of G.d hlk) mu mu b_add hsl hbt
theorem toB_ext (R : List Nat) (a b : Nat) : (toB R).extract a b = toB ((R.drop a).take (b - a)) := by
  refine Array.ext' ?_
  simp [toB, List.map_drop, List.map_take, List.take_drop]
theorem set_get {α : Type} {l : List α} {i j : Nat} {x : α} (h : i ≠ j) : (l.set i x)[j]? = l[j]? := List.getElem?_set_ne h
noncomputable def putR (R : List Nat) (r : Nat) (l : List Nat) : List Nat := R.take (4 * r) ++ (l ++ List.replicate (padl l.length) 0) ++ R.drop (4 * r + (l.length + padl l.length))
theorem putR_len {R : List Nat} {r : Nat} {l : List Nat} (h : R.length = 64) (hl : 4 * r + (l.length + padl l.length) ≤ 64) : (putR R r l).length = 64 := by
  unfold putR
  rw [List.length_append, List.length_append, List.length_append, List.length_take, List.length_replicate, List.length_drop, h, Nat.min_eq_left (Nat.le_trans (Nat.le_add_right _ _) hl), Nat.add_sub_cancel' hl]
theorem putR_lt {R : List Nat} {r : Nat} {l : List Nat} (h : ∀ x ∈ R, x < 256) (hl : ∀ x ∈ l, x < 256) : ∀ x ∈ putR R r l, x < 256 := by
  intro x hx
  unfold putR at hx
  simp only [List.mem_append] at hx
  rcases hx with (hx | hx | hx) | hx
  · exact h x (List.mem_of_mem_take hx)
  · exact hl x hx
  · rw [(List.mem_replicate.mp hx).2]; decide
  · exact h x (List.mem_of_mem_drop hx)
theorem asgT_sl {H : Hd} {n : Nat} {ρ : Rho} {o lo hi : IE} {i a b : Nat} {x y : Array UInt8} {σ₁ σ₂ σ₃ : Sg} (h1 : ev H n o ρ σ = some (.loc i, σ₁)) (h2 : ev H n lo ρ σ₁ = some (dn a, σ₂)) (h3 : ev H n hi ρ σ₂ = some (dn b, σ₃)) (hy : σ₃[i]? = some (.ba y))
    (ha : a ≤ b) (hb : b ≤ y.size) (hx : x.size = b - a) (hz : y.size ≤ big) : asgT H n (.sl o lo hi) (.bytes x) ρ σ = some (ρ, σ₃.set i (.ba (y.extract 0 a ++ x ++ y.extract b y.size))) := by
  simp only [asgT, h1, h2, h3, Option.bind_some, locD_loc, intD_dn, bytD_bytes, baAt_of hy]
  rw [if_pos ⟨by lia, by lia, by lia, by lia, hz⟩]
  rfl
theorem h_put {iR iO r : Nat} {R l : List Nat} (G : Rg σ iR iO R) (hl : ∀ x ∈ l, x < 256) (h : 4 * r + (l.length + padl l.length) ≤ 64) : HH (k + 2) 426 [.inst 429 iR, dn r, .bytes (toB l)] σ = some (.none, σ.set iO (.ba (toB (putR R r l)))) := by
  have hb : (64 : Nat) ≤ big := by decide
  have l4 : (4 : Nat) < lim := lim_small (by decide)
  have lr : r < lim := lim_small (by lia)
  have hlk : lookD "octets" ["octets"] [DV.loc iO] = some (.loc iO) := rfl
  have hp := h_pad4 (k := k) (σ := σ) l (by lia)
  have hlen := p_len_b (σ := σ) (l ++ List.replicate (padl l.length) 0) (by simp; lia)
  simp only [List.length_append, List.length_replicate] at hlen
  have hst : asgT (HH (k + 1)) 63 (.sl (.attr (.v 0) "octets") (.bin false .Mult (.k (dn 4)) (.v 1)) (.bin false .Add (.bin false .Mult (.k (dn 4)) (.v 1)) (.prim false .len [(.v 3)]))) (.bytes (toB (l ++ List.replicate (padl l.length) 0)))
      [some (.inst 429 iR), some (dn r), some (.bytes (toB l)), some (.bytes (toB (l ++ List.replicate (padl l.length) 0))), none, none] σ =
      some ([some (.inst 429 iR), some (dn r), some (.bytes (toB l)), some (.bytes (toB (l ++ List.replicate (padl l.length) 0))), none, none], σ.set iO (.ba (toB (putR R r l)))) := by
    have mu := b_mul l4 lr
    have a1 : ev (HH (k + 1)) 63 (.attr (.v 0) "octets") [some (.inst 429 iR), some (dn r), some (.bytes (toB l)), some (.bytes (toB (l ++ List.replicate (padl l.length) 0))), none, none] σ = some (.loc iO, σ) := walkE (.v _ :: []) fun w => w (att_of G.d hlk)
    have a2 : ev (HH (k + 1)) 63 (.bin false .Mult (.k (dn 4)) (.v 1)) [some (.inst 429 iR), some (dn r), some (.bytes (toB l)), some (.bytes (toB (l ++ List.replicate (padl l.length) 0))), none, none] σ = some (dn (4 * r), σ) := walkE (.v _ :: []) fun w => w mu
    have a3 : ev (HH (k + 1)) 63 (.bin false .Add (.bin false .Mult (.k (dn 4)) (.v 1)) (.prim false .len [(.v 3)])) [some (.inst 429 iR), some (dn r), some (.bytes (toB l)), some (.bytes (toB (l ++ List.replicate (padl l.length) 0))), none, none] σ = some (dn (4 * r + (l.length + padl l.length)), σ) := walkE (.v _ :: .v _ :: .v _ :: []) fun w => w mu hlen b_add
    rw [asgT_sl a1 a2 a3 G.o (by lia)
      (by rw [toB_size, G.n]; exact h) (by rw [toB_size]; simp) (by rw [toB_size, G.n]; exact hb)]
    congr 3
    refine congrArg AO.ba ?_
    rw [toB_ext, toB_ext, toB_size, toB_app, toB_app]
    unfold putR
    rw [List.drop_zero, Nat.sub_zero, List.take_of_length_le (l := R.drop _) (by simp)]
  rw [h426]
  exact walk (.c _ _ :: .b _ :: .v _ :: .v _ :: .v _ :: .b _ :: .c .none _ :: []) fun w => w hp (cN c_lt (Nat.not_lt_zero _)) (b_mul l4 lr) hlen b_add (cN c_gt (Nat.not_lt.mpr h)) hst
end
end
section
set_option genSizeOf false
inductive Fd where
  | mt (t : Str) (bits : Nat) (key : Str)
  | pay (first bits : Nat)
noncomputable def fdv : Fd → DV
  | .mt t bits key => .tup [.str "meta", .str t, dn bits, .str "host", .str key]
  | .pay first bits => .tup [.str "payload", .str "integer", dn bits, .str "big", .tup [.str "th", .str "network", dn first]]
noncomputable def Fd.sz : Fd → Nat
  | .mt _ bits _ => (0 + bits + 7) / 8
  | .pay first bits => (first % 8 + bits + 7) / 8
noncomputable def Fd.ord : Fd → Str
  | .mt .. => "host"
  | .pay .. => "big"
noncomputable def lookF (x : Str) : List Str → List Fd → Option Fd
  | k :: ks, f :: fs => if k = x then some f else lookF x ks fs
  | _, _ => none
theorem look_fdv (x : Str) : ∀ (ks : List Str) (fs : List Fd), lookD x ks (fs.map fdv) = (lookF x ks fs).map fdv
  | [], _ => by cases ‹List Fd› <;> rfl
  | _ :: _, [] => rfl
  | k :: ks, f :: fs => by
    simp only [List.map_cons, lookD, lookF]
    split
    · rfl
    · exact look_fdv x ks fs
theorem lookF_mem {x : Str} {f : Fd} : ∀ {ks : List Str} {fs : List Fd}, lookF x ks fs = some f → x ∈ ks
  | [], _, h => by simp [lookF] at h
  | _ :: _, [], h => by simp [lookF] at h
  | k :: ks, g :: fs, h => by
    unfold lookF at h
    split at h
    · rename_i e; simp [e]
    · exact List.mem_cons_of_mem _ (lookF_mem h)
structure Fls (σ : Sg) (iF : Nat) (ks : List Str) (fs : List Fd) : Prop where
  d : σ[iF]? = some (.dict ks (fs.map fdv))
inductive Tag where
  | mask | or | xor | shl | shr
  deriving DecidableEq
noncomputable def tagS : Tag → Str
  | .mask => "mask" | .or => "or" | .xor => "xor" | .shl => "shl" | .shr => "shr"
inductive Ex where
  | fld (x : Str)
  | op (t : Tag) (e : Ex) (n : Nat)
noncomputable def exv : Ex → DV
  | .fld x => .tup [.str "field", .str x]
  | .op t e n => .tup [.str (tagS t), exv e, dn n]
noncomputable def Ex.base : Ex → Str
  | .fld x => x
  | .op _ e _ => e.base
noncomputable def Ex.dep : Ex → Nat
  | .fld _ => 0
  | .op _ e _ => e.dep + 1
section
variable {k : Nat} {σ : Sg}
theorem big2 {n : Nat} (h : n < 10) : n < big := Nat.lt_trans h (by decide)
theorem sub0 {d : DV} {l : List DV} : subV σ (.tup (d :: l)) (dn 0) = some d := n_tup (big2 (by decide))
theorem sub1 {c d : DV} {l : List DV} : subV σ (.tup (c :: d :: l)) (dn 1) = some d := n_tup (big2 (by decide))
theorem sub2 {b c d : DV} {l : List DV} : subV σ (.tup (b :: c :: d :: l)) (dn 2) = some d := n_tup (big2 (by decide))
theorem sub3 {a b c d : DV} {l : List DV} : subV σ (.tup (a :: b :: c :: d :: l)) (dn 3) = some d := n_tup (big2 (by decide))
theorem sub4 {a b c d e : DV} {l : List DV} : subV σ (.tup (a :: b :: c :: d :: e :: l)) (dn 4) = some e := n_tup (big2 (by decide))
theorem sub5 {a b c d e f : DV} {l : List DV} : subV σ (.tup (a :: b :: c :: d :: e :: f :: l)) (dn 5) = some f := n_tup (big2 (by decide))
theorem tag_in (t : Tag) : tagS t ∈ (["mask", "or", "xor", "shl", "shr"] : List Str) := by cases t <;> decide
theorem field_in : ¬ (("field" : Str) ∈ (["mask", "or", "xor", "shl", "shr"] : List Str)) := by decide
noncomputable def isOp : Ex → Bool
  | .fld _ => false
  | .op .. => true
theorem tup_le {n : Nat} (h : n < 10) : n ≤ big := Nat.le_of_lt (big2 h)
theorem h_is_worked (e : Ex) : HH (k + 1) 86 [exv e] σ = some (.bool (isOp e), σ) := by
  rw [h86]
  have hin : cmpV σ .In (match e with | .fld _ => .str "field" | .op t _ _ => .str (tagS t)) (.tup [.str "mask", .str "or", .str "xor", .str "shl", .str "shr"]) = some (isOp e) := by
    cases e with
    | fld x => kernel_rfl
    | op t e n => cases t <;> kernel_rfl
  cases e <;> exact walk (.r :: .b _ :: []) fun w => w hin
theorem h_named {iF : Nat} {ks : List Str} {fs : List Fd} {x : Str} {f : Fd} (F : Fls σ iF ks fs) (h : lookF x ks fs = some f) : HH (k + 1) 79 [.loc iF, .str x] σ = some (fdv f, σ) := by
  rw [h79]
  have hn : cmpV σ .NotIn (.str x) (.loc iF) = some false := by rw [c_notin, in_loc F.d, decide_eq_true (lookF_mem h)]; rfl
  exact walk (.b _ :: .v _ :: []) fun w => w hn (key_of F.d ((look_fdv x ks fs).trans (congrArg (Option.map fdv) h)))
theorem whl_under {iF : Nat} {w : DV} : ∀ (e : Ex) (m : Nat), e.dep < m →
    whL (ev (HH (k + 1)) 63 (.call (.g (.ref 86)) [(.v 1)])) (exL (ex (HH (k + 1)) 63) [.asg (.nm 1) (.sub (.v 1) (.k (dn 1)))]) m [some (.loc iF), some (exv e), some w, none, none] σ =
      some (.next, [some (.loc iF), some (exv (.fld e.base)), some w, none, none], σ)
  | .fld x, m + 1, h => by
    exact bnd (walkE (.c _ _ :: []) fun w => w (h_is_worked (.fld x))) (bnd rfl (if_neg Bool.false_ne_true))
  | .op t e n, m + 1, h => by
    have ih := whl_under (iF := iF) (w := w) e m (by simp [Ex.dep] at h; omega)
    have hw : HH (k + 1) 86 [.tup [.str (tagS t), exv e, dn n]] σ = some (.bool true, σ) := h_is_worked (.op t e n)
    exact bnd (walkE (.c _ _ :: []) fun w => w hw) (bnd rfl ((if_pos rfl).trans (bnd (walkL (.r :: []) fun w => w) ih)))
theorem h_under {iF : Nat} {ks : List Str} {fs : List Fd} {e : Ex} {f : Fd} {w : DV} (F : Fls σ iF ks fs) (he : e.dep < 60) (h : lookF e.base ks fs = some f) : HH (k + 2) 93 [.loc iF, exv e, w] σ = some (fdv f, σ) := by
  rw [h93]
  have hn := h_named (k := k) F h
  have hh : ¬ (("field" : Str) = "hash") := by decide
  exact walk (.s _ _ _ :: .r :: .b _ :: .r :: .b _ :: .r :: .c _ _ :: []) fun w => w ((ex_while ..).trans (whl_under e 63 (by omega))) (sNe hh) (show cmpV σ .NotEq (.str "field") (.str "field") = some false by kernel_rfl) hn
theorem h_size {iF : Nat} {ks : List Str} {fs : List Fd} {e : Ex} {f : Fd} (F : Fls σ iF ks fs) (he : e.dep < 60) (h : lookF e.base ks fs = some f) : HH (k + 3) 100 [.loc iF, exv e] σ = some (dn f.sz, σ) := by
  rw [h100]
  have hu := h_under (k := k) (w := .str "size") F he h
  have l8 : (8 : Nat) < lim := lim_small (by decide)
  have hmp : ¬ (("meta" : Str) = "payload") := by decide
  have b8 : ∀ a, binV .Mod (dn a) (dn 8) = some (dn (a % 8)) := fun a => b_mod (by decide)
  have d8 : ∀ a, binV .FloorDiv (dn a) (dn 8) = some (dn (a / 8)) := fun a => b_div (by decide) l8
  cases f with
  | mt t bits key => exact walk (.c _ _ :: .r :: .r :: .b _ :: .r :: .v _ :: .v _ :: .v _ :: []) fun w => w hu (sNe hmp) b_add b_add (d8 _)
  | pay first bits => exact walk (.c _ _ :: .r :: .r :: .b _ :: .r :: .r :: .v _ :: .r :: .v _ :: .v _ :: .v _ :: []) fun w => w hu (sEq "payload") (b8 _) b_add b_add (d8 _)
theorem h_order {iF : Nat} {ks : List Str} {fs : List Fd} {e : Ex} {f : Fd} (F : Fls σ iF ks fs) (he : e.dep < 60) (h : lookF e.base ks fs = some f) : HH (k + 3) 107 [.loc iF, exv e] σ = some (.str f.ord, σ) := by
  rw [h107]
  have hu := h_under (k := k) (w := .str "order") F he h
  cases f <;> exact walk (.c _ _ :: .r :: .r :: []) fun w => w hu
end
end
section
noncomputable def wKs : List Str := ["fields", "family", "order", "prefix", "rows", "sets", "known", "makers", "flags"]
structure Wg (σ : Sg) (iW iR iK iF : Nat) (o : Bool) (rows : List DV) : Prop where
  w : σ[iW]? = some (.dict wKs [.loc iF, .str "inet", .str (ordS o), .str "p", .loc iR, .dct [] [], .loc iK, .dct [] [], .dct [] []])
  r : σ[iR]? = some (.list rows)
  n : iR ≠ iW ∧ iR ≠ iF
noncomputable def addR (σ : Sg) (iR : Nat) (rows : List DV) : Sg := σ.set iR (.list rows)
section
variable {k : Nat} {σ : Sg} {iW iR iK iF : Nat} {o : Bool} {rows : List DV} {ks : List Str} {fs : List Fd}
theorem Wg.add (W : Wg σ iW iR iK iF o rows) (rows' : List DV) : Wg (addR σ iR rows') iW iR iK iF o rows' := by
  have hlt : iR < σ.length := (List.getElem?_eq_some_iff.mp W.r).1
  refine ⟨?_, ?_, W.n⟩
  · unfold addR; rw [List.getElem?_set_ne W.n.1]; exact W.w
  · unfold addR; rw [List.getElem?_set_self hlt]
theorem Fls.add (F : Fls σ iF ks fs) (h : iR ≠ iF) (rows' : List DV) : Fls (addR σ iR rows') iF ks fs := by
  refine ⟨?_⟩
  unfold addR; rw [List.getElem?_set_ne h]; exact F.d
theorem addR_addR (a b : List DV) : addR (addR σ iR a) iR b = addR σ iR b := by simp [addR]
theorem addR_self (W : Wg σ iW iR iK iF o rows) : addR σ iR rows = σ := by
  unfold addR
  obtain ⟨h1, h2⟩ := List.getElem?_eq_some_iff.mp W.r
  rw [← h2]; simp
theorem lk_fields {l : List DV} : lookD "fields" wKs (.loc iF :: l) = some (.loc iF) := rfl
theorem lk_family {a b : DV} {l : List DV} : lookD "family" wKs (a :: b :: l) = some b := rfl
theorem lk_order {a b c : DV} {l : List DV} : lookD "order" wKs (a :: b :: c :: l) = some c := rfl
theorem lk_rows {a b c d e : DV} {l : List DV} : lookD "rows" wKs (a :: b :: c :: d :: e :: l) = some e := rfl
theorem h_const (W : Wg σ iW iR iK iF o rows) {n s : Nat} {x : Str} {little : Bool} (hx : (if x = "host" then ordS o else x) = ordS little) (hn : n < 256 ^ s) (h0 : 0 < s) (hs : s ≤ 300) :
    HH (k + 3) 194 [.inst 176 iW, dn n, dn s, .str x] σ = some (.bytes (toB (enc little n s)), σ) := by
  rw [h194]
  have h1 := h_host_order (k := k + 1) (σ := σ) x (ordS o)
  rw [hx] at h1
  have h2 := h_host_octets (k := k) (σ := σ) little hn h0 hs
  exact walk (.v _ :: .c _ _ :: .c _ _ :: []) fun w => w (att_of W.w lk_order) h1 h2
theorem h_turn_row (W : Wg σ iW iR iK iF o rows) (hl : rows.length ≤ 1000) (r m : Nat) : HH (k + 1) 201 [.inst 176 iW, dn r, dn m] σ = some (.none, addR σ iR (rows ++ [.tup [.str "byteorder", dn r, dn r, dn m]])) := by
  rw [h201]
  exact walk (.v _ :: .b _ :: .c _ _ :: []) fun w => w (att_of W.w lk_rows) (appQ_of W.r) (appV_of W.r hl)
noncomputable def fldRow (f : Fd) (r : Nat) : DV := match f with
  | .mt _ _ key => .tup [.str "meta", dn r, .str key, dn f.sz, .str "host"]
  | .pay first _ => .tup [.str "payload", dn r, .str "network", dn (first / 8), dn f.sz]
theorem h_field_row (W : Wg σ iW iR iK iF o rows) (F : Fls σ iF ks fs) (hl : rows.length ≤ 1000) (r : Nat) {x : Str} {f : Fd} (h : lookF x ks fs = some f) : HH (k + 4) 208 [.inst 176 iW, dn r, .str x] σ = some (dn f.sz, addR σ iR (rows ++ [fldRow f r])) := by
  rw [h208]
  have hn := h_named (k := k + 2) F h
  have hs : HH (k + 3) 100 [.loc iF, .tup [.str "field", .str x]] σ = some (dn f.sz, σ) := h_size (k := k) (e := .fld x) F (by simp [Ex.dep]) h
  have d8 : ∀ a, binV .FloorDiv (dn a) (dn 8) = some (dn (a / 8)) := fun a => b_div (by decide) (lim_small (by decide))
  have hmc : ¬ (("payload" : Str) = "meta") := by decide
  have hpc : ¬ (("payload" : Str) = "ct") := by decide
  cases f with
  | mt t bits key =>
    exact walk (.v _ :: .c _ _ :: .v _ :: .c _ _ :: .b _ :: .v _ :: .b _ :: .c _ _ :: []) fun w => w (att_of W.w lk_fields) hn (att_of W.w lk_fields) hs (sEq "meta") (att_of W.w lk_rows) (appQ_of W.r) (appV_of W.r hl)
  | pay first bits =>
    exact walk (.v _ :: .c _ _ :: .v _ :: .c _ _ :: .b _ :: .b _ :: .v _ :: .b _ :: .r :: .r :: .v _ :: .c _ _ :: []) fun w => w (att_of W.w lk_fields) hn (att_of W.w lk_fields) hs (sNe hmc) (sNe hpc) (att_of W.w lk_rows) (appQ_of W.r) (d8 _) (appV_of W.r hl)
theorem h_needs_in : HH (k + 2) 72 [.str "inet", .str "th"] σ = some (.tup [], σ) := by kernel_rfl
theorem h_put_needs (W : Wg σ iW iR iK iF o rows) (r : Nat) : HH (k + 3) 215 [.inst 176 iW, dn r, .str "th"] σ = some (.none, σ) := by
  rw [h215]
  have hn := h_needs_in (k := k) (σ := σ)
  exact walk (.s _ _ _ :: []) fun w => w (for_of (n := 63) (its := []) (walkE (.v _ :: .c _ _ :: []) fun w => w (att_of W.w lk_family) hn) rfl (Nat.zero_le _) rfl)
end
end
section
noncomputable def bwRow (r : Nat) (a b : List Nat) : DV := .tup [.str "bitwise", dn r, dn r, .bytes (toB a), .bytes (toB b)]
noncomputable def shRow (r m : Nat) (side : Str) (by_ : Nat) : DV := .tup [.str "shift", dn r, dn r, dn m, .str side, dn by_]
noncomputable def boRow (r m : Nat) : DV := .tup [.str "byteorder", dn r, dn r, dn m]
noncomputable def cutRows (r m above bits : Nat) : List DV :=
  (if 0 < above ∨ 0 < 8 * m - above - bits then [bwRow r (enc false ((2 ^ bits - 1) * 2 ^ (8 * m - above - bits)) m) (enc false 0 m)] else []) ++
  (if 0 < 8 * m - above - bits then [shRow r m "right" (8 * m - above - bits)] else [])
noncomputable def fldRows (f : Fd) (r : Nat) : List DV := fldRow f r :: (match f with
  | .mt .. => []
  | .pay first bits => cutRows r f.sz (first % 8) bits)
section
variable {k : Nat} {σ : Sg} {iW iR iK iF : Nat} {o : Bool} {rows : List DV} {ks : List Str} {fs : List Fd}
theorem big_host : (if ("big" : Str) = "host" then ordS o else "big") = ordS false := by
  rw [if_neg (by decide)]; rfl
theorem h_cut_row (W : Wg σ iW iR iK iF o rows) (hl : rows.length ≤ 900) (r m above bits : Nat) (h0 : 0 < m) (hm : m ≤ 200) (hb : above + bits ≤ 8 * m) : HH (k + 4) 222 [.inst 176 iW, dn r, dn m, dn above, dn bits] σ = some (.none, addR σ iR (rows ++ cutRows r m above bits)) := by
  rw [h222]
  have l8 : (8 : Nat) < lim := lim_small (by decide)
  have l1 : (1 : Nat) < lim := lim_small (by decide)
  have lm : m < lim := lim_small (by lia)
  have hbits : bits ≤ big := Nat.le_trans (show bits ≤ 1600 by lia) (by decide)
  have hbel : 8 * m - above - bits ≤ big := Nat.le_trans (show _ ≤ 1600 by lia) (by decide)
  have lp : 2 ^ bits - 1 < lim := by
    refine Nat.lt_of_le_of_lt (Nat.sub_le _ _) ?_
    unfold lim
    exact Nat.pow_lt_pow_right (by decide) (by lia)
  have hmask : (2 ^ bits - 1) * 2 ^ (8 * m - above - bits) < 256 ^ m := by
    rw [pow256]
    have h1 : (2 ^ bits - 1) * 2 ^ (8 * m - above - bits) < 2 ^ bits * 2 ^ (8 * m - above - bits) := Nat.mul_lt_mul_of_pos_right (Nat.sub_lt (Nat.two_pow_pos _) (by decide)) (Nat.two_pow_pos _)
    rw [← Nat.pow_add] at h1
    exact Nat.lt_of_lt_of_le h1 (Nat.pow_le_pow_right (by decide) (by lia))
  have c1 := h_const (k := k) W (x := "big") (little := false) big_host hmask h0 (by lia)
  have c0 := h_const (k := k) W (x := "big") (little := false) (n := 0) big_host (Nat.pow_pos (by decide)) h0 (by lia)
  have e1 : 1 ≤ 2 ^ bits := Nat.one_le_two_pow
  have s1 : binV .Sub (dn (8 * m)) (dn above) = some (dn (8 * m - above)) := b_sub (by lia)
  have s2 : binV .Sub (dn (8 * m - above)) (dn bits) = some (dn (8 * m - above - bits)) := b_sub (by lia)
  have s3 : binV .LShift (dn 1) (dn bits) = some (dn (2 ^ bits)) := by rw [b_shl l1 hbits, Nat.one_mul]
  have s4 : binV .Sub (dn (2 ^ bits)) (dn 1) = some (dn (2 ^ bits - 1)) := b_sub e1
  have s5 := b_shl lp hbel
  generalize hB : 8 * m - above - bits = B at *
  have mul8 := b_mul l8 lm
  have W1 := W.add (rows ++ [bwRow r (enc false ((2 ^ bits - 1) * 2 ^ B) m) (enc false 0 m)])
  by_cases hz : 0 < B
  · have fin : addR σ iR (rows ++ cutRows r m above bits) = addR (addR σ iR (rows ++ [bwRow r (enc false ((2 ^ bits - 1) * 2 ^ B) m) (enc false 0 m)])) iR (rows ++ [bwRow r (enc false ((2 ^ bits - 1) * 2 ^ B) m) (enc false 0 m)] ++ [shRow r m "right" B]) := by
      simp [cutRows, hB, hz, addR_addR]
    rw [fin]
    have hl1 : (rows ++ [bwRow r (enc false ((2 ^ bits - 1) * 2 ^ B) m) (enc false 0 m)]).length ≤ 1000 := by simp; lia
    by_cases ha : 0 < above
    · exact walk (.v _ :: .v _ :: .v _ :: .b _ :: .v _ :: .v _ :: .v _ :: .v _ :: .b _ :: .c _ _ :: .c _ _ :: .c _ _ :: .b _ :: .v _ :: .b _ :: .c _ _ :: []) fun w => w mul8 s1 s2 (cB c_gt ha) s3 s4 s5 (att_of W.w lk_rows) (appQ_of W.r) c1 c0 (appV_of W.r (by lia)) (cB c_gt hz) (att_of W1.w lk_rows) (appQ_of W1.r) (appV_of W1.r hl1)
    · exact walk (.v _ :: .v _ :: .v _ :: .b _ :: .b _ :: .v _ :: .v _ :: .v _ :: .v _ :: .b _ :: .c _ _ :: .c _ _ :: .c _ _ :: .b _ :: .v _ :: .b _ :: .c _ _ :: []) fun w => w mul8 s1 s2 (cN c_gt ha) (cB c_gt hz) s3 s4 s5 (att_of W.w lk_rows) (appQ_of W.r) c1 c0 (appV_of W.r (by lia)) (cB c_gt hz) (att_of W1.w lk_rows) (appQ_of W1.r) (appV_of W1.r hl1)
  · by_cases ha : 0 < above
    · rw [show cutRows r m above bits = [bwRow r (enc false ((2 ^ bits - 1) * 2 ^ B) m) (enc false 0 m)] by simp [cutRows, hB, hz, ha]]
      exact walk (.v _ :: .v _ :: .v _ :: .b _ :: .v _ :: .v _ :: .v _ :: .v _ :: .b _ :: .c _ _ :: .c _ _ :: .c _ _ :: .b _ :: []) fun w => w mul8 s1 s2 (cB c_gt ha) s3 s4 s5 (att_of W.w lk_rows) (appQ_of W.r) c1 c0 (appV_of W.r (by lia)) (cN c_gt hz)
    · rw [show cutRows r m above bits = [] by simp [cutRows, hB, hz, ha], List.append_nil, addR_self W]
      exact walk (.v _ :: .v _ :: .v _ :: .b _ :: .b _ :: .b _ :: []) fun w => w mul8 s1 s2 (cN c_gt ha) (cN c_gt hz) (cN c_gt hz)
end
end
section
noncomputable def FdOk : Fd → Prop
  | .mt _ bits _ => bits = 16 ∨ bits = 32
  | .pay _ bits => 1 ≤ bits ∧ bits ≤ 200
theorem sz_pay (first bits : Nat) : (Fd.pay first bits).sz = (first % 8 + bits + 7) / 8 := rfl
theorem FdOk.sz {f : Fd} (h : FdOk f) : 0 < f.sz ∧ f.sz ≤ 30 := by
  cases f with
  | mt t bits key => rcases h with rfl | rfl <;> simp [Fd.sz]
  | pay first bits =>
    obtain ⟨h1, h2⟩ := h
    rw [sz_pay]
    lia
noncomputable def isMt : Fd → Bool
  | .mt .. => true
  | .pay .. => false
noncomputable def lit (f : Fd) (o : Bool) : Bool := isMt f && o
theorem ord_lit (f : Fd) (o : Bool) : (if f.ord = "host" then ordS o else f.ord) = ordS (lit f o) := by
  cases f with
  | mt t b y => show (if ("host" : Str) = "host" then ordS o else "host") = _; rw [if_pos rfl]; cases o <;> rfl
  | pay a b => show (if ("big" : Str) = "host" then ordS o else "big") = _; rw [if_neg (by decide)]; rfl
noncomputable def keepN (t : Tag) (n full : Nat) : Nat := match t with
  | .mask => n &&& full
  | .or => full ^^^ (n &&& full)
  | _ => full
noncomputable def turnN (t : Tag) (n full : Nat) : Nat := match t with
  | .mask => 0
  | _ => n &&& full
noncomputable def opRows (f : Fd) (o : Bool) (r : Nat) (t : Tag) (n : Nat) : List DV := match t with
  | .shl => (if isMt f then [boRow r f.sz] else []) ++ [shRow r f.sz "left" n] ++ (if isMt f then [boRow r f.sz] else [])
  | .shr => (if isMt f then [boRow r f.sz] else []) ++ [shRow r f.sz "right" n] ++ (if isMt f then [boRow r f.sz] else [])
  | t => [bwRow r (enc (lit f o) (keepN t n (2 ^ (8 * f.sz) - 1)) f.sz) (enc (lit f o) (turnN t n (2 ^ (8 * f.sz) - 1)) f.sz)]
noncomputable def exRows (f : Fd) (o : Bool) (r : Nat) : Ex → List DV
  | .fld _ => fldRows f r
  | .op t e n => exRows f o r e ++ opRows f o r t n
theorem fldRows_len (f : Fd) (r : Nat) : (fldRows f r).length ≤ 3 := by
  cases f <;> simp [fldRows, cutRows]
  split <;> split <;> simp
theorem opRows_len (f : Fd) (o : Bool) (r : Nat) (t : Tag) (n : Nat) : (opRows f o r t n).length ≤ 3 := by
  cases t <;> cases f <;> simp [opRows, isMt]
theorem exRows_len (f : Fd) (o : Bool) (r : Nat) : ∀ e : Ex, (exRows f o r e).length ≤ 3 * e.dep + 3
  | .fld _ => fldRows_len f r
  | .op t e n => by
    have := exRows_len f o r e
    have := opRows_len f o r t n
    simp [exRows, Ex.dep]; lia
section
variable {k : Nat} {σ : Sg} {iW iR iK iF : Nat} {o : Bool} {rows : List DV} {ks : List Str} {fs : List Fd}
theorem h_load_field (W : Wg σ iW iR iK iF o rows) (F : Fls σ iF ks fs) (hl : rows.length ≤ 800) (r : Nat) {x : Str} {f : Fd} (h : lookF x ks fs = some f) (ok : FdOk f) : HH (k + 5) 229 [.inst 176 iW, dn r, .str x] σ = some (.none, addR σ iR (rows ++ fldRows f r)) := by
  rw [h229]
  have hn := h_named (k := k + 3) F h
  have hf := h_field_row (k := k) W F (by lia) r h
  have m8 : ∀ a, binV .Mod (dn a) (dn 8) = some (dn (a % 8)) := fun a => b_mod (by decide)
  obtain ⟨z1, z2⟩ := ok.sz
  cases f with
  | mt t bits key =>
    have hmp : ¬ (("meta" : Str) = "payload") := by decide
    exact walk (.v _ :: .c _ _ :: .b _ :: .c _ _ :: .b _ :: []) fun w => w (att_of W.w lk_fields) hn (sNe hmp) hf (sNe hmp)
  | pay first bits =>
    have hp := h_put_needs (k := k + 1) W r
    have hc := h_cut_row (k := k) (W.add (rows ++ [fldRow (.pay first bits) r])) (by simp; lia) r (Fd.pay first bits).sz (first % 8) bits z1 (by lia) (by rw [sz_pay]; lia)
    rw [addR_addR, List.append_assoc] at hc
    exact walk (.v _ :: .c _ _ :: .b _ :: .r :: .c _ _ :: .c _ _ :: .b _ :: .r :: .v _ :: .c _ _ :: []) fun w => w (att_of W.w lk_fields) hn (sEq "payload") hp hf (sEq "payload") (m8 _) hc
theorem and_full (n s : Nat) : n &&& (2 ^ (8 * s) - 1) = n % 2 ^ (8 * s) := Nat.and_two_pow_sub_one_eq_mod n (8 * s)
theorem full_lt (s : Nat) : 2 ^ (8 * s) - 1 < 256 ^ s := by
  rw [pow256]; exact Nat.sub_lt (Nat.two_pow_pos _) (by decide)
theorem keep_lt (t : Tag) (n s : Nat) : keepN t n (2 ^ (8 * s) - 1) < 256 ^ s := by
  have h1 := full_lt s
  have h2 : n &&& (2 ^ (8 * s) - 1) < 256 ^ s := Nat.lt_of_le_of_lt Nat.and_le_right h1
  have h3 : (2 ^ (8 * s) - 1) ^^^ (n &&& (2 ^ (8 * s) - 1)) < 256 ^ s := by
    rw [pow256] at h1 h2 ⊢
    exact Nat.xor_lt_two_pow h1 h2
  cases t <;> simp only [keepN] <;> assumption
theorem turn_lt (t : Tag) (n s : Nat) : turnN t n (2 ^ (8 * s) - 1) < 256 ^ s := by
  have h1 := full_lt s
  have h2 : n &&& (2 ^ (8 * s) - 1) < 256 ^ s := Nat.lt_of_le_of_lt Nat.and_le_right h1
  cases t <;> simp only [turnN] <;> first | assumption | exact Nat.pow_pos (by decide)
theorem h_bits_row (W : Wg σ iW iR iK iF o rows) (F : Fls σ iF ks fs) (hl : rows.length ≤ 800) (r : Nat) {e : Ex} {f : Fd} (he : e.dep < 60) (h : lookF e.base ks fs = some f) (ok : FdOk f) (t : Tag) (ht : t = .mask ∨ t = .or ∨ t = .xor) (n : Nat) :
    HH (k + 4) 236 [.inst 176 iW, dn r, exv e, .str (tagS t), dn n] σ = some (.none, addR σ iR (rows ++ opRows f o r t n)) := by
  rw [h236]
  obtain ⟨z1, z2⟩ := ok.sz
  have hs := h_size (k := k) F he h
  have ho := h_order (k := k) F he h
  have l8 : (8 : Nat) < lim := lim_small (by decide)
  have l1 : (1 : Nat) < lim := lim_small (by decide)
  have lz : f.sz < lim := lim_small (by lia)
  have mul8 := b_mul l8 lz
  have s3 : binV .LShift (dn 1) (dn (8 * f.sz)) = some (dn (2 ^ (8 * f.sz))) := by rw [b_shl l1 (Nat.le_trans (show _ ≤ 240 by lia) (by decide)), Nat.one_mul]
  have s4 : binV .Sub (dn (2 ^ (8 * f.sz))) (dn 1) = some (dn (2 ^ (8 * f.sz) - 1)) := b_sub Nat.one_le_two_pow
  have c1 := h_const (k := k) W (ord_lit f o) (keep_lt t n f.sz) z1 (by lia)
  have c2 := h_const (k := k) W (ord_lit f o) (turn_lt t n f.sz) z1 (by lia)
  have hmo : ¬ (("or" : Str) = "mask") := by decide
  have hxm : ¬ (("xor" : Str) = "mask") := by decide
  have hxo : ¬ (("xor" : Str) = "or") := by decide
  rcases ht with rfl | rfl | rfl
  · exact walk (.v _ :: .c _ _ :: .v _ :: .c _ _ :: .v _ :: .v _ :: .v _ :: .v _ :: .b _ :: .v _ :: .b _ :: .c _ _ :: .c _ _ :: .c _ _ :: []) fun w => w (att_of W.w lk_fields) hs (att_of W.w lk_fields) ho mul8 s3 s4 b_and (sEq "mask") (att_of W.w lk_rows) (appQ_of W.r) c1 c2 (appV_of W.r (by lia))
  · exact walk (.v _ :: .c _ _ :: .v _ :: .c _ _ :: .v _ :: .v _ :: .v _ :: .v _ :: .b _ :: .b _ :: .v _ :: .v _ :: .b _ :: .c _ _ :: .c _ _ :: .c _ _ :: []) fun w => w (att_of W.w lk_fields) hs (att_of W.w lk_fields) ho mul8 s3 s4 b_and (sNe hmo) (sEq "or") b_xor (att_of W.w lk_rows) (appQ_of W.r) c1 c2 (appV_of W.r (by lia))
  · exact walk (.v _ :: .c _ _ :: .v _ :: .c _ _ :: .v _ :: .v _ :: .v _ :: .v _ :: .b _ :: .b _ :: .v _ :: .b _ :: .c _ _ :: .c _ _ :: .c _ _ :: []) fun w => w (att_of W.w lk_fields) hs (att_of W.w lk_fields) ho mul8 s3 s4 b_and (sNe hxm) (sNe hxo) (att_of W.w lk_rows) (appQ_of W.r) c1 c2 (appV_of W.r (by lia))
end
end
section
section
variable {k : Nat} {σ : Sg} {iW iR iK iF : Nat} {o : Bool} {rows : List DV} {ks : List Str} {fs : List Fd}
noncomputable def sideS (t : Tag) : Str := if t = .shl then "left" else "right"
theorem h_shift_rows (W : Wg σ iW iR iK iF o rows) (F : Fls σ iF ks fs) (hl : rows.length ≤ 800) (r : Nat) {e : Ex} {f : Fd} (t : Tag) (ht : t = .shl ∨ t = .shr) (n : Nat) (he : e.dep < 59) (h : lookF e.base ks fs = some f) :
    HH (k + 4) 243 [.inst 176 iW, dn r, exv (.op t e n)] σ = some (.none, addR σ iR (rows ++ opRows f o r t n)) := by
  rw [h243]
  have hs : HH (k + 3) 100 [.loc iF, exv (.op t e n)] σ = some (dn f.sz, σ) := h_size (e := .op t e n) F (by simp [Ex.dep]; lia) h
  have ho : HH (k + 3) 107 [.loc iF, exv (.op t e n)] σ = some (.str f.ord, σ) := h_order (e := .op t e n) F (by simp [Ex.dep]; lia) h
  have hx : exv (.op t e n) = .tup [.str (tagS t), exv e, dn n] := rfl
  rw [hx] at hs ho ⊢
  have hb : ∀ τ, cmpV τ .Eq (.str (tagS t)) (.str "shl") = some (decide (t = .shl)) := fun τ => by rcases ht with rfl | rfl <;> kernel_rfl
  cases f with
  | mt ty bits key =>
    have t1 := h_turn_row (k := k + 2) W (by lia) r (Fd.mt ty bits key).sz
    have W1 := W.add (rows ++ [boRow r (Fd.mt ty bits key).sz])
    have fin : addR σ iR (rows ++ opRows (.mt ty bits key) o r t n) = addR (addR (addR σ iR (rows ++ [boRow r (Fd.mt ty bits key).sz])) iR (rows ++ [boRow r (Fd.mt ty bits key).sz] ++ [shRow r (Fd.mt ty bits key).sz (sideS t) n])) iR (rows ++ [boRow r (Fd.mt ty bits key).sz] ++ [shRow r (Fd.mt ty bits key).sz (sideS t) n] ++ [boRow r (Fd.mt ty bits key).sz]) := by
      rw [addR_addR, addR_addR]; rcases ht with rfl | rfl <;> simp [opRows, isMt, sideS]
    rw [fin]
    have l1 : (rows ++ [boRow r (Fd.mt ty bits key).sz]).length ≤ 1000 := by simp; lia
    have W2 := W1.add (rows ++ [boRow r (Fd.mt ty bits key).sz] ++ [shRow r (Fd.mt ty bits key).sz (sideS t) n])
    have t2 := h_turn_row (k := k + 2) W2 (by simp; lia) r (Fd.mt ty bits key).sz
    have ap := appV_of (d := shRow r (Fd.mt ty bits key).sz (sideS t) n) W1.r l1
    rcases ht with rfl | rfl
    · exact walk (.v _ :: .c _ _ :: .r :: .b _ :: .v _ :: .c _ _ :: .b _ :: .c _ _ :: .v _ :: .b _ :: .r :: .c _ _ :: .c _ _ :: []) fun w => w (att_of W.w lk_fields) hs (hb _) (att_of W.w lk_fields) ho (sEq "host") t1 (att_of W1.w lk_rows) (appQ_of W1.r) ap t2
    · exact walk (.v _ :: .c _ _ :: .r :: .b _ :: .v _ :: .c _ _ :: .b _ :: .c _ _ :: .v _ :: .b _ :: .r :: .c _ _ :: .c _ _ :: []) fun w => w (att_of W.w lk_fields) hs (hb _) (att_of W.w lk_fields) ho (sEq "host") t1 (att_of W1.w lk_rows) (appQ_of W1.r) ap t2
  | pay first bits =>
    have hbh : ¬ (("big" : Str) = "host") := by decide
    have fin : addR σ iR (rows ++ opRows (.pay first bits) o r t n) = addR σ iR (rows ++ [shRow r (Fd.pay first bits).sz (sideS t) n]) := by rcases ht with rfl | rfl <;> simp [opRows, isMt, sideS]
    rw [fin]
    have ap := appV_of (d := shRow r (Fd.pay first bits).sz (sideS t) n) W.r (by lia)
    rcases ht with rfl | rfl
    · exact walk (.v _ :: .c _ _ :: .r :: .b _ :: .v _ :: .c _ _ :: .b _ :: .v _ :: .b _ :: .r :: .c _ _ :: []) fun w => w (att_of W.w lk_fields) hs (hb _) (att_of W.w lk_fields) ho (sNe hbh) (att_of W.w lk_rows) (appQ_of W.r) ap
    · exact walk (.v _ :: .c _ _ :: .r :: .b _ :: .v _ :: .c _ _ :: .b _ :: .v _ :: .b _ :: .r :: .c _ _ :: []) fun w => w (att_of W.w lk_fields) hs (hb _) (att_of W.w lk_fields) ho (sNe hbh) (att_of W.w lk_rows) (appQ_of W.r) ap
theorem h_load {f : Fd} (ok : FdOk f) (r : Nat) : ∀ (e : Ex) (k : Nat) (σ : Sg) (rows : List DV), Wg σ iW iR iK iF o rows → Fls σ iF ks fs → rows.length + 3 * e.dep ≤ 700 → e.dep < 50 → lookF e.base ks fs = some f →
    HH (k + 6 + e.dep) 250 [.inst 176 iW, dn r, exv e] σ = some (.none, addR σ iR (rows ++ exRows f o r e))
  | .fld x, k, σ, rows, W, F, hl, he, h => by
    have hf : HH (k + 5) 229 [.inst 176 iW, dn r, .str x] σ = some (.none, addR σ iR (rows ++ fldRows f r)) := h_load_field (k := k) W F (by lia) r h ok
    show HH (k + 5 + 1) 250 _ _ = _
    rw [h250]
    exact walk (.r :: .b _ :: .r :: .c _ _ :: []) fun w => w (sEq "field") hf
  | .op t e n, k, σ, rows, W, F, hl, he, h => by
    simp only [Ex.dep] at hl he
    have ih := h_load ok r e k σ rows W F (by lia) (by lia) h
    have hr := exRows_len f o r e
    have hx : exv (.op t e n) = .tup [.str (tagS t), exv e, dn n] := rfl
    have e1 : k + 6 + (Ex.op t e n).dep = k + 6 + e.dep + 1 := rfl
    rw [e1, h250, hx]
    have W' := W.add (rows ++ exRows f o r e)
    have F' := F.add W.n.2 (rows ++ exRows f o r e)
    have hs := fun ht hd => h_shift_rows (k := k + 2 + e.dep) W' F' (by simp; lia) r (e := e) (f := f) t ht n hd h
    have hb := fun ht => h_bits_row (k := k + 2 + e.dep) W' F' (by simp; lia) r (e := .op t e n) (f := f) (by simp [Ex.dep]; lia) h ok t ht n
    simp only [show k + 2 + e.dep + 4 = k + 6 + e.dep by lia, hx] at hs hb
    cases t with
    | shl =>
      have q : HH (k + 6 + e.dep) 243 [.inst 176 iW, dn r, .tup [.str "shl", exv e, dn n]] _ = _ := hs (.inl rfl) (by lia)
      rw [addR_addR, List.append_assoc] at q
      exact walk (.r :: .b _ :: .b _ :: .b _ :: .r :: .c _ _ :: .c _ _ :: []) fun w => w (sNe (by decide)) (show cmpV σ .In (.str (tagS .shl)) (.tup [.str "mask", .str "or", .str "xor"]) = some false by kernel_rfl) (show cmpV σ .In (.str (tagS .shl)) (.tup [.str "shl", .str "shr"]) = some true by kernel_rfl) ih q
    | shr =>
      have q : HH (k + 6 + e.dep) 243 [.inst 176 iW, dn r, .tup [.str "shr", exv e, dn n]] _ = _ := hs (.inr rfl) (by lia)
      rw [addR_addR, List.append_assoc] at q
      exact walk (.r :: .b _ :: .b _ :: .b _ :: .r :: .c _ _ :: .c _ _ :: []) fun w => w (sNe (by decide)) (show cmpV σ .In (.str (tagS .shr)) (.tup [.str "mask", .str "or", .str "xor"]) = some false by kernel_rfl) (show cmpV σ .In (.str (tagS .shr)) (.tup [.str "shl", .str "shr"]) = some true by kernel_rfl) ih q
    | mask =>
      have q : HH (k + 6 + e.dep) 236 [.inst 176 iW, dn r, .tup [.str "mask", exv e, dn n], .str "mask", dn n] _ = _ := hb (.inl rfl)
      rw [addR_addR, List.append_assoc] at q
      exact walk (.r :: .b _ :: .b _ :: .r :: .c _ _ :: .r :: .c _ _ :: []) fun w => w (sNe (by decide)) (show cmpV σ .In (.str (tagS .mask)) (.tup [.str "mask", .str "or", .str "xor"]) = some true by kernel_rfl) ih q
    | or =>
      have q : HH (k + 6 + e.dep) 236 [.inst 176 iW, dn r, .tup [.str "or", exv e, dn n], .str "or", dn n] _ = _ := hb (.inr (.inl rfl))
      rw [addR_addR, List.append_assoc] at q
      exact walk (.r :: .b _ :: .b _ :: .r :: .c _ _ :: .r :: .c _ _ :: []) fun w => w (sNe (by decide)) (show cmpV σ .In (.str (tagS .or)) (.tup [.str "mask", .str "or", .str "xor"]) = some true by kernel_rfl) ih q
    | xor =>
      have q : HH (k + 6 + e.dep) 236 [.inst 176 iW, dn r, .tup [.str "xor", exv e, dn n], .str "xor", dn n] _ = _ := hb (.inr (.inr rfl))
      rw [addR_addR, List.append_assoc] at q
      exact walk (.r :: .b _ :: .b _ :: .r :: .c _ _ :: .r :: .c _ _ :: []) fun w => w (sNe (by decide)) (show cmpV σ .In (.str (tagS .xor)) (.tup [.str "mask", .str "or", .str "xor"]) = some true by kernel_rfl) ih q
end
end
section
noncomputable def sKs : List Str := ["packet", "now", "hook", "talk", "state", "is_reply", "talks", "sets", "objects", "fields", "readers", "doers", "ops", "tools", "order", "log", "replies", "steps", "homes"]
noncomputable def sVs (iP iF : Nat) (o : Bool) : List DV := [.inst 288 iP, dn 0, .str "input", .none, dn 1, dn 0, .none, .dct [] [], .dct [] [], .loc iF, .dct ["payload", "meta"] [.con (.ref 391), .con (.ref 398)], .dct [] [],
  .dct ["payload", "meta", "bitwise", "shift", "byteorder"] [.con (.ref 468), .con (.ref 475), .con (.ref 440), .con (.ref 447), .con (.ref 454)], .dct [] [], .str (ordS o), .lst [], .lst [], .none, .dct [] []]
noncomputable def pKs : List Str := ["data", "link", "kind", "l4", "off", "place", "meta"]
noncomputable def pVs (D : List Nat) (iM : Nat) : List DV := [.ba (toB D), .ba #[], dn 2048, .int (-1), .int (-1), dn 0, .loc iM]
noncomputable def mKs : List Str := ["mark", "priority", "iif", "oif", "iifname", "oifname", "pkttype", "iiftype", "oiftype"]
noncomputable def mVs (m1 m2 : Nat) : List DV := [dn m1, dn 0, dn 0, dn 0, dn 0, dn 0, dn 0, dn m2, dn 1]
structure Mc (σ : Sg) (iS iP iM iR iO iF : Nat) (o : Bool) (D : List Nat) (m1 m2 : Nat) (R : List Nat) : Prop where
  s : σ[iS]? = some (.dict sKs (sVs iP iF o))
  p : σ[iP]? = some (.dict pKs (pVs D iM))
  m : σ[iM]? = some (.dict mKs (mVs m1 m2))
  g : Rg σ iR iO R
  ne : iO ≠ iS ∧ iO ≠ iP ∧ iO ≠ iM ∧ iO ≠ iR
  db : ∀ x ∈ D, x < 256
  dl : D.length ≤ 300
noncomputable def setO (σ : Sg) (iO : Nat) (R : List Nat) : Sg := σ.set iO (.ba (toB R))
section
variable {k : Nat} {σ : Sg} {iS iP iM iR iO iF : Nat} {o : Bool} {D R : List Nat} {m1 m2 : Nat}
theorem Mc.put (M : Mc σ iS iP iM iR iO iF o D m1 m2 R) {R' : List Nat} (h1 : R'.length = 64) (h2 : ∀ x ∈ R', x < 256) : Mc (setO σ iO R') iS iP iM iR iO iF o D m1 m2 R' := by
  obtain ⟨n1, n2, n3, n4⟩ := M.ne
  have hlt : iO < σ.length := (List.getElem?_eq_some_iff.mp M.g.o).1
  refine ⟨?_, ?_, ?_, ⟨?_, ?_, h1, h2⟩, M.ne, M.db, M.dl⟩ <;> unfold setO
  · rw [List.getElem?_set_ne n1]; exact M.s
  · rw [List.getElem?_set_ne n2]; exact M.p
  · rw [List.getElem?_set_ne n3]; exact M.m
  · rw [List.getElem?_set_ne n4]; exact M.g.d
  · rw [List.getElem?_set_self hlt]
theorem lk_packet : lookD "packet" sKs (sVs iP iF o) = some (.inst 288 iP) := rfl
theorem lk_sorder : lookD "order" sKs (sVs iP iF o) = some (.str (ordS o)) := rfl
theorem lk_sfields : lookD "fields" sKs (sVs iP iF o) = some (.loc iF) := rfl
theorem lk_readers : lookD "readers" sKs (sVs iP iF o) = some (.dct ["payload", "meta"] [.con (.ref 391), .con (.ref 398)]) := rfl
theorem lk_ops : lookD "ops" sKs (sVs iP iF o) = some (.dct ["payload", "meta", "bitwise", "shift", "byteorder"] [.con (.ref 468), .con (.ref 475), .con (.ref 440), .con (.ref 447), .con (.ref 454)]) := rfl
theorem lk_data {iM : Nat} : lookD "data" pKs (pVs D iM) = some (.ba (toB D)) := rfl
theorem lk_meta {iM : Nat} : lookD "meta" pKs (pVs D iM) = some (.loc iM) := rfl
noncomputable def keyS (b : Bool) : Str := if b then "mark" else "iiftype"
noncomputable def keyN (b : Bool) (m1 m2 : Nat) : Nat := if b then m1 else m2
theorem lk_key (b : Bool) : lookD (keyS b) mKs (mVs m1 m2) = some (dn (keyN b m1 m2)) := by cases b <;> rfl
theorem h_meta_value (M : Mc σ iS iP iM iR iO iF o D m1 m2 R) (b : Bool) : HH (k + 1) 384 [.inst 338 iS, .str (keyS b)] σ = some (dn (keyN b m1 m2), σ) := by
  rw [h384]
  have hk := lk_key (m1 := m1) (m2 := m2) b
  exact walk (.v _ :: .b _ :: .b _ :: .b _ :: .v _ :: .b _ :: .v _ :: []) fun w => w (att_of M.s lk_packet) (sNe (by cases b <;> decide)) (sNe (by cases b <;> decide)) (show cmpV σ .In (.str (keyS b)) (.tup [.str "length", .str "protocol"]) = some false by cases b <;> kernel_rfl)
    (att_of M.p lk_meta) (dctQ_of M.m) (get_of' M.m hk)
theorem h_part (M : Mc σ iS iP iM iR iO iF o D m1 m2 R) (at_ many : Nat) : HH (k + 2) 313 [.inst 288 iP, .str "network", dn at_, dn many] σ = some (if at_ + many ≤ D.length then .bytes (toB ((D.drop at_).take many)) else .none, σ) := by
  rw [h313]
  have hbase : HH (k + 1) 306 [.inst 288 iP, .str "network"] σ = some (.tup [.ba (toB D), dn 0], σ) := by
    rw [h306]
    exact walk (.b _ :: .v _ :: []) fun w => w (sEq "network") (att_of M.p lk_data)
  have hlen : primV σ .len [.ba (toB D)] = some (dn D.length) := by
    show (bytesOf σ (.ba (toB D))).bind (fun b => if b.size ≤ big then some (DV.int b.size) else none) = _
    show (if (toB D).size ≤ big then some (DV.int (toB D).size) else none) = _
    rw [toB_size, if_pos (Nat.le_trans M.dl (by decide))]; rfl
  by_cases h : at_ + many ≤ D.length
  · have hsl : sliceV σ (.ba (toB D)) (dn at_) (dn (at_ + many)) .none = some (.ba (toB ((D.drop at_).take many))) := by
      have hp := toB_pick D at_ (at_ + many) (by lia) h
      rw [show at_ + many - at_ = many by lia] at hp
      unfold sliceV
      rw [show partV (dn at_) = some (some ((at_ : Nat) : Int)) from rfl, show partV (dn (at_ + many)) = some (some ((at_ + many : Nat) : Int)) from rfl, show partV .none = some none from rfl]
      simp only [Option.bind_some]
      rw [show items σ (.ba (toB D)) = none from rfl, Option.elim_none, show bytesOf σ (.ba (toB D)) = some (toB D) from rfl, Option.bind_some, hp, if_pos]
      refine ⟨?_, trivial⟩
      rw [toB_size]
      refine Nat.le_trans ?_ (show 300 ≤ big by decide)
      have := M.dl
      simp; lia
    have hbt : primV σ .bytes [.ba (toB ((D.drop at_).take many))] = some (.bytes (toB ((D.drop at_).take many))) := by
      show (if (toB ((D.drop at_).take many)).size ≤ big then _ else _) = _
      rw [if_pos]
      rw [toB_size]
      refine Nat.le_trans ?_ (show 300 ≤ big by decide)
      have := M.dl
      simp; lia
    rw [if_pos h]
    have z : ∀ x : Nat, binV .Add (dn 0) (dn x) = some (dn x) := fun x => by rw [b_add, Nat.zero_add]
    exact walk (.c _ _ :: .r :: .b _ :: .r :: .v _ :: .v _ :: .r :: .v _ :: .b _ :: .r :: .v _ :: .v _ :: .v _ :: []) fun w => w hbase (cN c_lt (Nat.not_lt_zero _)) (z _) b_add hlen (cN c_gt (Nat.not_lt.mpr h)) b_add hsl hbt
  · rw [if_neg h]
    have z : ∀ x : Nat, binV .Add (dn 0) (dn x) = some (dn x) := fun x => by rw [b_add, Nat.zero_add]
    exact walk (.c _ _ :: .r :: .b _ :: .r :: .v _ :: .v _ :: .r :: .v _ :: .b _ :: []) fun w => w hbase (cN c_lt (Nat.not_lt_zero _)) (z _) b_add hlen (cB c_gt (Nat.lt_of_not_le h))
noncomputable def brk : DV := .tup [.str "break", .str ""]
theorem drop_lt {l : List Nat} (h : ∀ x ∈ l, x < 256) (a n : Nat) : ∀ x ∈ (l.drop a).take n, x < 256 := fun x hx => h x (List.mem_of_mem_drop (List.mem_of_mem_take hx))
theorem h_op_payload (M : Mc σ iS iP iM iR iO iF o D m1 m2 R) (r at_ many : Nat) (hr : 4 * r + (many + padl many) ≤ 64) : HH (k + 3) 468 [.inst 338 iS, .inst 429 iR, .tup [.str "payload", dn r, .str "network", dn at_, dn many], .none] σ =
    (if at_ + many ≤ D.length then some (.none, setO σ iO (putR R r ((D.drop at_).take many))) else some (brk, σ)) := by
  rw [h468]
  have hp := h_part (k := k) M at_ many
  by_cases h : at_ + many ≤ D.length
  · rw [if_pos h] at hp ⊢
    have hlen := take_len h
    have hput := h_put (k := k) M.g (l := (D.drop at_).take many) (r := r) (drop_lt M.db _ _) (by rw [hlen]; exact hr)
    exact walk (.v _ :: .r :: .r :: .r :: .c _ _ :: .r :: .b _ :: .r :: .c _ _ :: []) fun w => w (att_of M.s lk_packet) hp (meth_of M.g.d (by decide)) hput
  · rw [if_neg h] at hp ⊢
    exact walk (.v _ :: .r :: .r :: .r :: .c _ _ :: .r :: []) fun w => w (att_of M.s lk_packet) hp
theorem h_op_meta (M : Mc σ iS iP iM iR iO iF o D m1 m2 R) (r s : Nat) (b : Bool) (hn : keyN b m1 m2 < 256 ^ s) (h0 : 0 < s) (hs : s ≤ 60) (hr : 4 * r + (s + padl s) ≤ 64) : HH (k + 4) 475 [.inst 338 iS, .inst 429 iR, .tup [.str "meta", dn r, .str (keyS b), dn s, .str "host"], .none] σ =
    some (.none, setO σ iO (putR R r (enc o (keyN b m1 m2) s))) := by
  rw [h475]
  have hv := h_meta_value (k := k + 2) M b
  have h1 := h_host_order (k := k + 1) (σ := σ) "host" (ordS o)
  rw [if_pos rfl] at h1
  have h2 := h_host_octets (k := k) (σ := σ) o hn h0 (by lia)
  have hput := h_put (k := k) M.g (l := enc o (keyN b m1 m2) s) (r := r) (enc_lt _ _ _) (by rw [enc_len]; exact hr)
  have hpn : HH (k + 3) 461 [.inst 338 iS, .inst 429 iR, dn r, dn (keyN b m1 m2), dn s, .str "host"] σ = some (.none, setO σ iO (putR R r (enc o (keyN b m1 m2) s))) := by
    rw [h461]
    exact walk (.r :: .b _ :: .v _ :: .c _ _ :: .c _ _ :: .c _ _ :: []) fun w => w (meth_of M.g.d (by decide)) (att_of M.s lk_sorder) h1 h2 hput
  exact walk (.r :: .r :: .c _ _ :: .r :: .r :: .c _ _ :: []) fun w => w hv hpn
theorem n8 {l : List Nat} (h : ∀ x ∈ l, x < 256) (hl : l.length ≤ 300) (d : DV) (hd : d = .bytes (toB l) ∨ d = .ba (toB l)) : HH (k + 1) 121 [d] σ = some (dn (num l), σ) := by
  have := h_number (k := k) (σ := σ) (toB l) (by rw [toB_size]; exact hl) d hd
  rwa [nat8_toB h] at this
theorem h_op_bitwise (M : Mc σ iS iP iM iR iO iF o D m1 m2 R) (r : Nat) (a b : List Nat) (ha : ∀ x ∈ a, x < 256) (hb : ∀ x ∈ b, x < 256) (hab : a.length = b.length) (hr : 4 * r + (a.length + padl a.length) ≤ 64) :
    HH (k + 3) 440 [.inst 338 iS, .inst 429 iR, .tup [.str "bitwise", dn r, dn r, .bytes (toB a), .bytes (toB b)], .none] σ =
      some (.none, setO σ iO (putR R r (digs ((num ((R.drop (4 * r)).take a.length) &&& num a) ^^^ num b) a.length).reverse)) := by
  rw [h440]
  have hg := h_get (k := k + 1) M.g (r := r) (m := a.length) (by lia)
  have hRl : ((R.drop (4 * r)).take a.length).length = a.length := take_len (by rw [M.g.n]; lia)
  have hRb := drop_lt M.g.b (4 * r) a.length
  have e1 := n8 (k := k + 1) (σ := σ) hRb (by lia) _ (.inl rfl)
  have e2 := n8 (k := k + 1) (σ := σ) ha (by lia) _ (.inl rfl)
  have e3 := n8 (k := k + 1) (σ := σ) hb (by lia) _ (.inl rfl)
  have hlen := p_len_b (σ := σ) a (by lia)
  have la := num_lt a ha
  have lb := num_lt b hb
  rw [← hab] at lb
  have hlt : (num ((R.drop (4 * r)).take a.length) &&& num a) ^^^ num b < 256 ^ a.length := by
    have h1 : num ((R.drop (4 * r)).take a.length) &&& num a < 256 ^ a.length := Nat.lt_of_le_of_lt Nat.and_le_right la
    rw [pow256] at h1 lb ⊢
    exact Nat.xor_lt_two_pow h1 lb
  have ho := h_octets (k := k + 1) (σ := σ) hlt (by lia)
  have hput := h_put (k := k) M.g (l := (digs ((num ((R.drop (4 * r)).take a.length) &&& num a) ^^^ num b) a.length).reverse) (r := r) (fun x hx => digs_lt _ _ x (by simpa using hx)) (by simp [digs_len]; exact hr)
  exact walk (.r :: .v _ :: .b _ :: .r :: .c _ _ :: .c _ _ :: .r :: .c _ _ :: .v _ :: .b _ :: .r :: .r :: .c _ _ :: .v _ :: .c _ _ :: .c _ _ :: []) fun w => w hlen (meth_of M.g.d (by decide)) hg e1 e2 b_and (meth_of M.g.d (by decide)) e3 b_xor ho hput
noncomputable def shN (side : Str) (v m by_ : Nat) : Nat := if 8 * m ≤ by_ then 0 else if side = "left" then v * 2 ^ by_ % 2 ^ (8 * m) else v / 2 ^ by_
theorem shN_lt {side : Str} {v m by_ : Nat} (h : v < 256 ^ m) : shN side v m by_ < 256 ^ m := by
  unfold shN
  split
  · exact Nat.pow_pos (by decide)
  · split
    · rw [pow256]; exact Nat.mod_lt _ (Nat.two_pow_pos _)
    · exact Nat.lt_of_le_of_lt (Nat.div_le_self _ _) h
theorem h_op_shift (M : Mc σ iS iP iM iR iO iF o D m1 m2 R) (r m : Nat) (side : Str) (by_ : Nat) (h0 : 0 < m) (hr : 4 * r + (m + padl m) ≤ 64) :
    HH (k + 3) 447 [.inst 338 iS, .inst 429 iR, .tup [.str "shift", dn r, dn r, dn m, .str side, dn by_], .none] σ =
      some (.none, setO σ iO (putR R r (digs (shN side (num ((R.drop (4 * r)).take m)) m by_) m).reverse)) := by
  rw [h447]
  have hg := h_get (k := k + 1) M.g (r := r) (m := m) (by lia)
  have hRl : ((R.drop (4 * r)).take m).length = m := take_len (by rw [M.g.n]; lia)
  have hRb := drop_lt M.g.b (4 * r) m
  have e1 := n8 (k := k + 1) (σ := σ) hRb (by lia) _ (.inl rfl)
  have lv := num_lt _ hRb
  rw [hRl] at lv
  generalize num ((R.drop (4 * r)).take m) = v at *
  have ho := h_octets (k := k + 1) (σ := σ) (shN_lt (side := side) (by_ := by_) lv) (by lia)
  have hput := h_put (k := k) M.g (l := (digs (shN side v m by_) m).reverse) (r := r) (fun x hx => digs_lt _ _ x (by simpa using hx)) (by simp [digs_len]; exact hr)
  have mul8 := b_mul (lim_small (show 8 ≤ 100000 by decide)) (lim_small (show m ≤ 100000 by lia))
  by_cases hz : 8 * m ≤ by_
  · rw [show shN side v m by_ = 0 by unfold shN; rw [if_pos hz]] at ho hput ⊢
    exact walk (.b _ :: .r :: .r :: .c _ _ :: .c _ _ :: .r :: .r :: .v _ :: .b _ :: .b _ :: .r :: .r :: .c _ _ :: .c _ _ :: []) fun w => w (meth_of M.g.d (by decide)) hg e1 mul8 (cB c_ge hz) (meth_of M.g.d (by decide)) ho hput
  · have hby : by_ ≤ big := Nat.le_trans (show by_ ≤ 512 by lia) (by decide)
    have l1 : (1 : Nat) < lim := lim_small (by decide)
    have lvl : v < lim := lim_of lv (by lia)
    have s3 : binV .LShift (dn 1) (dn (8 * m)) = some (dn (2 ^ (8 * m))) := by rw [b_shl l1 (Nat.le_trans (show _ ≤ 512 by lia) (by decide)), Nat.one_mul]
    have s4 : binV .Sub (dn (2 ^ (8 * m))) (dn 1) = some (dn (2 ^ (8 * m) - 1)) := b_sub Nat.one_le_two_pow
    have s5 := b_shl lvl hby
    by_cases hs : side = "left"
    · rw [show shN side v m by_ = v * 2 ^ by_ % 2 ^ (8 * m) by unfold shN; rw [if_neg hz, if_pos hs]] at ho hput ⊢
      subst hs
      have b_and' : binV .BitAnd (dn (v * 2 ^ by_)) (dn (2 ^ (8 * m) - 1)) = some (dn (v * 2 ^ by_ % 2 ^ (8 * m))) := by rw [b_and, Nat.and_two_pow_sub_one_eq_mod]
      exact walk (.b _ :: .r :: .r :: .c _ _ :: .c _ _ :: .r :: .r :: .v _ :: .b _ :: .r :: .b _ :: .r :: .v _ :: .r :: .v _ :: .v _ :: .v _ :: .v _ :: .b _ :: .r :: .r :: .c _ _ :: .c _ _ :: []) fun w => w (meth_of M.g.d (by decide)) hg e1 mul8 (cN c_ge hz) (sEq "left") s5 mul8 s3 s4 b_and' (meth_of M.g.d (by decide)) ho hput
    · rw [show shN side v m by_ = v / 2 ^ by_ by unfold shN; rw [if_neg hz, if_neg hs]] at ho hput ⊢
      exact walk (.b _ :: .r :: .r :: .c _ _ :: .c _ _ :: .r :: .r :: .v _ :: .b _ :: .r :: .b _ :: .r :: .v _ :: .b _ :: .r :: .r :: .c _ _ :: .c _ _ :: []) fun w => w (meth_of M.g.d (by decide)) hg e1 mul8 (cN c_ge hz) (sNe hs) b_shr (meth_of M.g.d (by decide)) ho hput
theorem h_op_byteorder (M : Mc σ iS iP iM iR iO iF o D m1 m2 R) (r m : Nat) (h0 : 0 < m) (hr : 4 * r + (m + padl m) ≤ 64) :
    HH (k + 3) 454 [.inst 338 iS, .inst 429 iR, .tup [.str "byteorder", dn r, dn r, dn m], .none] σ = some (.none, setO σ iO (putR R r (enc o (num ((R.drop (4 * r)).take m)) m))) := by
  rw [h454]
  have hg := h_get (k := k + 1) M.g (r := r) (m := m) (by lia)
  have hRl : ((R.drop (4 * r)).take m).length = m := take_len (by rw [M.g.n]; lia)
  have hRb := drop_lt M.g.b (4 * r) m
  have e1 := n8 (k := k + 1) (σ := σ) hRb (by lia) _ (.inl rfl)
  have lv := num_lt _ hRb
  rw [hRl] at lv
  have ho := h_host_octets (k := k) (σ := σ) o lv h0 (by lia)
  have hput := h_put (k := k) M.g (l := enc o (num ((R.drop (4 * r)).take m)) m) (r := r) (enc_lt _ _ _) (by rw [enc_len]; exact hr)
  exact walk (.b _ :: .r :: .r :: .c _ _ :: .c _ _ :: .b _ :: .r :: .r :: .v _ :: .c _ _ :: .c _ _ :: []) fun w => w (meth_of M.g.d (by decide)) hg e1 (meth_of M.g.d (by decide)) (att_of M.s lk_sorder) ho hput
end
end
section
theorem putR_get {R : List Nat} {r : Nat} {l : List Nat} (hR : R.length = 64) (h : 4 * r + (l.length + padl l.length) ≤ 64) : ((putR R r l).drop (4 * r)).take l.length = l := by
  have e : (R.take (4 * r)).length = 4 * r := by simp; lia
  unfold putR
  rw [List.append_assoc, List.drop_left' e, List.append_assoc, List.take_left' rfl]
theorem putR_putR {R : List Nat} {r : Nat} {a b : List Nat} (hR : R.length = 64) (hab : a.length = b.length) (h : 4 * r + (a.length + padl a.length) ≤ 64) : putR (putR R r a) r b = putR R r b := by
  have e : (R.take (4 * r)).length = 4 * r := by simp; lia
  unfold putR
  rw [← hab]
  congr 1
  · congr 1
    rw [List.append_assoc, List.take_left' e]
  · have e2 : (R.take (4 * r) ++ (a ++ List.replicate (padl a.length) 0)).length = 4 * r + (a.length + padl a.length) := by simp; lia
    rw [List.drop_left' e2]
noncomputable def flOf : Option DV → Fl
  | none => .next
  | some d => .ret d
inductive Runs (k iS iR iP iF : Nat) (o : Bool) : List DV → Sg → Option DV → Sg → Prop
  | nil {σ} : Runs k iS iR iP iF o [] σ none σ
  | brk {σ σ' : Sg} {r : List DV} {tag : Str} {l m : List DV} {op : Addr} (hs : σ[iS]? = some (.dict sKs (sVs iP iF o)))
      (ho : lookD tag ["payload", "meta", "bitwise", "shift", "byteorder"] [.con (.ref 468), .con (.ref 475), .con (.ref 440), .con (.ref 447), .con (.ref 454)] = some (.con (.ref op)))
      (hc : HH k op [.inst 338 iS, .inst 429 iR, .tup (.str tag :: l), .none] σ = some (.tup m, σ')) : Runs k iS iR iP iF o (.tup (.str tag :: l) :: r) σ (some (.tup m)) σ'
  | step {σ σ₁ σ' : Sg} {r : List DV} {tag : Str} {l : List DV} {op : Addr} {v : Option DV} (hs : σ[iS]? = some (.dict sKs (sVs iP iF o)))
      (ho : lookD tag ["payload", "meta", "bitwise", "shift", "byteorder"] [.con (.ref 468), .con (.ref 475), .con (.ref 440), .con (.ref 447), .con (.ref 454)] = some (.con (.ref op)))
      (hc : HH k op [.inst 338 iS, .inst 429 iR, .tup (.str tag :: l), .none] σ = some (.none, σ₁)) (h : Runs k iS iR iP iF o r σ₁ v σ') : Runs k iS iR iP iF o (.tup (.str tag :: l) :: r) σ v σ'
section
variable {k : Nat} {σ σ₁ σ₂ : Sg} {iS iP iM iR iO iF : Nat} {o : Bool} {D R : List Nat} {m1 m2 : Nat} {a b : List DV} {v : Option DV}
theorem Runs.app (x : Runs k iS iR iP iF o a σ none σ₁) (y : Runs k iS iR iP iF o b σ₁ v σ₂) : Runs k iS iR iP iF o (a ++ b) σ v σ₂ := by
  generalize hu : (none : Option DV) = u at x
  induction x with
  | nil => exact y
  | brk hs ho hc => cases hu
  | step hs ho hc h ih => exact .step hs ho hc (ih y hu)
theorem Runs.stop {d : DV} (x : Runs k iS iR iP iF o a σ (some d) σ₁) : Runs k iS iR iP iF o (a ++ b) σ (some d) σ₁ := by
  generalize hu : some d = u at x
  induction x with
  | nil => cases hu
  | brk hs ho hc => exact .brk hs ho hc
  | step hs ho hc h ih => exact .step hs ho hc (ih hu)
theorem Runs.loop {all : DV} (x : Runs k iS iR iP iF o a σ v σ₁) : ∀ (z3 z4 : Option DV), ∃ z3' z4', forL (fun x ρ' s => (setAll ρ' [3] x).bind fun ρ'' => exL (ex (HH k) 63) [.asg (.nm 4) (.call (.sub (.attr (.v 0) "ops") (.sub (.v 3) (.k (dn 0)))) [.v 0, .v 1, .v 3, .k .none]), .ifS (.cmp .IsNot (.v 4) (.k .none)) [.ret (some (.v 4))] []] ρ'' s)
    (a.map ([·])) [some (.inst 338 iS), some (.inst 429 iR), some all, z3, z4, none, none] σ = some (flOf v, [some (.inst 338 iS), some (.inst 429 iR), some all, z3', z4', none, none], σ₁) := by
  induction x with
  | nil => intro z3 z4; exact ⟨z3, z4, rfl⟩
  | brk hs ho hc =>
    intro z3 z4
    rename_i tag l m op
    refine ⟨some (.tup (.str tag :: l)), some (.tup m), ?_⟩
    exact bnd (show exL (ex (HH k) 63) [.asg (.nm 4) (.call (.sub (.attr (.v 0) "ops") (.sub (.v 3) (.k (dn 0)))) [.v 0, .v 1, .v 3, .k .none]), .ifS (.cmp .IsNot (.v 4) (.k .none)) [.ret (some (.v 4))] []] [some (.inst 338 iS), some (.inst 429 iR), some all, some (.tup (.str tag :: l)), z4, none, none] _ = _ from
      walkL (.v _ :: .r :: .v _ :: .c _ _ :: .r :: []) fun w => w (att_of hs lk_ops) (dct_key ho) hc) rfl
  | step hs ho hc h ih =>
    intro z3 z4
    rename_i tag l op v'
    obtain ⟨z3', z4', e⟩ := ih (some (.tup (.str tag :: l))) (some .none)
    refine ⟨z3', z4', ?_⟩
    refine Eq.trans (forL_step ?_) e
    show exL (ex (HH k) 63) [.asg (.nm 4) (.call (.sub (.attr (.v 0) "ops") (.sub (.v 3) (.k (dn 0)))) [.v 0, .v 1, .v 3, .k .none]), .ifS (.cmp .IsNot (.v 4) (.k .none)) [.ret (some (.v 4))] []] [some (.inst 338 iS), some (.inst 429 iR), some all, some (.tup (.str tag :: l)), z4, none, none] _ = _
    exact walkL (.v _ :: .r :: .v _ :: .c _ _ :: .r :: []) fun w => w (att_of hs lk_ops) (dct_key ho) hc
theorem h_run (x : Runs k iS iR iP iF o a σ v σ₁) (hl : a.length ≤ 1000) : HH (k + 1) 520 [.inst 338 iS, .inst 429 iR, .lst a] σ = some (v.getD .none, σ₁) := by
  rw [h520]
  obtain ⟨z3', z4', e⟩ := x.loop (all := .lst a) none none
  have hloop := for_of (H := HH k) (n := 63) (vs := [3]) (ik := .seq) (src := .v 2) (σ := σ) (σ₁ := σ) (d := .lst a) rfl rfl (by simpa using Nat.le_trans hl (by decide)) e
  cases v with
  | none => exact walk (.s _ _ _ :: []) fun w => w hloop
  | some d => exact walk (.s _ _ _ :: []) fun w => w hloop
end
end
section
theorem digs_num' {l : List Nat} (h : ∀ x ∈ l, x < 256) {s : Nat} (hs : l.length = s) : (digs (num l) s).reverse = l := by
  subst hs; rw [digs_num l h, List.reverse_reverse]
theorem num_enc_false {v s : Nat} (h : v < 256 ^ s) : num (enc false v s) = v := by
  show num (digs v s).reverse = v
  rw [num_digs, Nat.mod_eq_of_lt h]
theorem enc_enc (o : Bool) (v s : Nat) (h : v < 256 ^ s) : enc o (num (enc o v s)) s = enc false v s := by
  cases o with
  | false => rw [num_enc_false h]
  | true =>
    show digs (num (digs v s)) s = (digs v s).reverse
    have := digs_num (digs v s) (digs_lt s v)
    rwa [digs_len] at this
theorem enc_false_num (o : Bool) (v s : Nat) (h : v < 256 ^ s) : enc o (num (enc false v s)) s = enc o v s := by rw [num_enc_false h]
theorem digs_and (s : Nat) : ∀ a b, digs (a &&& b) s = List.zipWith (· &&& ·) (digs a s) (digs b s) := by
  induction s with
  | zero => intro a b; rfl
  | succ s ih =>
    intro a b
    simp only [digs, List.zipWith_cons_cons]
    rw [← ih, show (256 : Nat) = 2 ^ 8 from rfl, Nat.and_mod_two_pow, Nat.and_div_two_pow]
theorem digs_xor (s : Nat) : ∀ a b, digs (a ^^^ b) s = List.zipWith (· ^^^ ·) (digs a s) (digs b s) := by
  induction s with
  | zero => intro a b; rfl
  | succ s ih =>
    intro a b
    simp only [digs, List.zipWith_cons_cons]
    rw [← ih, show (256 : Nat) = 2 ^ 8 from rfl, Nat.xor_mod_two_pow, Nat.xor_div_two_pow]
theorem zip_rev {f : Nat → Nat → Nat} {x y : List Nat} (h : x.length = y.length) : List.zipWith f x.reverse y.reverse = (List.zipWith f x y).reverse := (List.reverse_zipWith h).symm
theorem num_and {x y : List Nat} (hx : ∀ a ∈ x, a < 256) (hy : ∀ a ∈ y, a < 256) (h : x.length = y.length) : num x &&& num y = num (List.zipWith (· &&& ·) x y) := by
  have e := digs_and x.length (num x) (num y)
  rw [digs_num x hx, h, digs_num y hy, zip_rev h, ← h] at e
  have lx := num_lt x hx
  have hlt : num x &&& num y < 256 ^ x.length := Nat.lt_of_le_of_lt Nat.and_le_left lx
  have := congrArg (fun l => num l.reverse) e
  simp only [List.reverse_reverse] at this
  rw [num_digs, Nat.mod_eq_of_lt hlt] at this
  exact this
theorem num_xor {x y : List Nat} (hx : ∀ a ∈ x, a < 256) (hy : ∀ a ∈ y, a < 256) (h : x.length = y.length) : num x ^^^ num y = num (List.zipWith (· ^^^ ·) x y) := by
  have e := digs_xor x.length (num x) (num y)
  rw [digs_num x hx, h, digs_num y hy, zip_rev h, ← h] at e
  have lx := num_lt x hx
  have ly := num_lt y hy
  rw [← h] at ly
  have hlt : num x ^^^ num y < 256 ^ x.length := by
    rw [pow256] at lx ly ⊢
    exact Nat.xor_lt_two_pow lx ly
  have := congrArg (fun l => num l.reverse) e
  simp only [List.reverse_reverse] at this
  rw [num_digs, Nat.mod_eq_of_lt hlt] at this
  exact this
theorem enc_and (l : Bool) (a b s : Nat) : List.zipWith (· &&& ·) (enc l a s) (enc l b s) = enc l (a &&& b) s := by
  unfold enc
  split
  · rw [digs_and]
  · rw [zip_rev (by simp [digs_len]), ← digs_and]
theorem enc_xor (l : Bool) (a b s : Nat) : List.zipWith (· ^^^ ·) (enc l a s) (enc l b s) = enc l (a ^^^ b) s := by
  unfold enc
  split
  · rw [digs_xor]
  · rw [zip_rev (by simp [digs_len]), ← digs_xor]
theorem bw_enc (l : Bool) (v a b s : Nat) : (digs ((num (enc l v s) &&& num (enc l a s)) ^^^ num (enc l b s)) s).reverse = enc l ((v &&& a) ^^^ b) s := by
  have h1 : (enc l v s).length = (enc l a s).length := by rw [enc_len, enc_len]
  have h2 : (enc l (v &&& a) s).length = (enc l b s).length := by rw [enc_len, enc_len]
  rw [num_and (enc_lt l v s) (enc_lt l a s) h1, enc_and, num_xor (enc_lt _ _ _) (enc_lt _ _ _) h2, enc_xor, digs_num' (enc_lt _ _ _) (enc_len _ _ _)]
theorem cut_bits (v b c : Nat) : (v &&& ((2 ^ b - 1) * 2 ^ c)) / 2 ^ c = v / 2 ^ c % 2 ^ b := by
  refine Nat.eq_of_testBit_eq fun i => ?_
  rw [Nat.testBit_div_two_pow, Nat.testBit_and, Nat.testBit_mul_two_pow, Nat.testBit_mod_two_pow, Nat.testBit_div_two_pow, Nat.testBit_two_pow_sub_one]
  simp [Nat.add_sub_cancel]
  by_cases h : i < b <;> simp [h]
theorem num_append (a b : List Nat) (hb : ∀ x ∈ b, x < 256) : num (a ++ b) = num a * 256 ^ b.length + num b := by
  induction h : b.length generalizing b with
  | zero => rw [List.length_eq_zero_iff.mp h]; simp [num]
  | succ s ih =>
    have hne : b ≠ [] := by rintro rfl; cases h
    obtain ⟨b', x, rfl⟩ : ∃ b' x, b = b' ++ [x] := ⟨b.dropLast, b.getLast hne, (List.dropLast_concat_getLast hne).symm⟩
    have hl : b'.length = s := by simp at h; lia
    rw [← List.append_assoc, num_app, num_app, ih b' (fun y hy => hb y (by simp [hy])) hl, Nat.pow_succ]
    generalize num a = p; generalize num b' = q; generalize 256 ^ s = z
    rw [Nat.add_mul, Nat.mul_assoc]; lia
theorem num_slice {D : List Nat} (hD : ∀ x ∈ D, x < 256) {a m : Nat} (h : a + m ≤ D.length) : num ((D.drop a).take m) = num D / 256 ^ (D.length - (a + m)) % 256 ^ m := by
  have e : D = D.take a ++ (D.drop a).take m ++ D.drop (a + m) := by
    rw [List.append_assoc, ← List.drop_drop, List.take_append_drop, List.take_append_drop]
  have l1 : ((D.drop a).take m).length = m := by simp; lia
  have l2 : (D.drop (a + m)).length = D.length - (a + m) := by simp
  have b1 := drop_lt hD a m
  have b2 : ∀ x ∈ D.drop (a + m), x < 256 := fun x hx => hD x (List.mem_of_mem_drop hx)
  have e2 : num D = (num (D.take a) * 256 ^ m + num ((D.drop a).take m)) * 256 ^ (D.length - (a + m)) + num (D.drop (a + m)) := by
    conv => lhs; rw [e]
    rw [num_append _ _ b2, num_append _ _ b1, l1, l2]
  have lt2 := num_lt _ b2
  have lt1 := num_lt _ b1
  rw [l2] at lt2; rw [l1] at lt1
  rw [e2, Nat.mul_comm _ (256 ^ (D.length - (a + m))), Nat.mul_add_div (Nat.pow_pos (by decide)), Nat.div_eq_of_lt lt2, Nat.add_zero, Nat.mul_comm _ (256 ^ m), Nat.mul_add_mod, Nat.mod_eq_of_lt lt1]
end
section
noncomputable def fval (f : Fd) (D : List Nat) (m1 m2 : Nat) : Option Nat := match f with
  | .mt _ _ key => some (if key = "mark" then m1 else m2)
  | .pay first bits => if first + bits ≤ 8 * D.length then some (num D / 2 ^ (8 * D.length - (first + bits)) % 2 ^ bits) else none
noncomputable def FdK : Fd → Prop
  | .mt _ bits key => (key = "mark" ∧ bits = 32) ∨ (key = "iiftype" ∧ bits = 16)
  | .pay _ bits => 1 ≤ bits ∧ bits ≤ 200
theorem FdK.ok {f : Fd} (h : FdK f) : FdOk f := by
  cases f with
  | mt t bits key => rcases h with ⟨_, rfl⟩ | ⟨_, rfl⟩ <;> simp [FdOk]
  | pay a b => exact h
noncomputable def opN (t : Tag) (s n v : Nat) : Nat := match t with
  | .mask => v &&& n
  | .or => (v ||| n) % 2 ^ (8 * s)
  | .xor => (v ^^^ n) % 2 ^ (8 * s)
  | .shl => v * 2 ^ n % 2 ^ (8 * s)
  | .shr => v / 2 ^ n
noncomputable def exval (f : Fd) (D : List Nat) (m1 m2 : Nat) : Ex → Option Nat
  | .fld _ => fval f D m1 m2
  | .op t e n => (exval f D m1 m2 e).map (opN t f.sz n)
theorem fval_lt {f : Fd} {D : List Nat} {m1 m2 v : Nat} (ok : FdK f) (h1 : m1 < 2 ^ 32) (h2 : m2 < 2 ^ 16) (h : fval f D m1 m2 = some v) : v < 256 ^ f.sz := by
  cases f with
  | mt t bits key =>
    have n12 : ¬ (("iiftype" : Str) = "mark") := by decide
    rcases ok with ⟨rfl, rfl⟩ | ⟨rfl, rfl⟩
    · simp [fval] at h; subst h; simp [Fd.sz]; lia
    · simp [fval, n12] at h; subst h; simp [Fd.sz]; lia
  | pay first bits =>
    unfold fval at h
    simp only at h
    split at h
    · cases h
      refine Nat.lt_of_lt_of_le (Nat.mod_lt _ (Nat.two_pow_pos _)) ?_
      rw [pow256]
      exact Nat.pow_le_pow_right (by decide) (by rw [sz_pay]; lia)
    · cases h
theorem opN_lt (t : Tag) {s n v : Nat} (h : v < 256 ^ s) : opN t s n v < 256 ^ s := by
  cases t with
  | mask => exact Nat.lt_of_le_of_lt Nat.and_le_left h
  | shr => exact Nat.lt_of_le_of_lt (Nat.div_le_self _ _) h
  | _ => simp only [opN]; rw [pow256]; exact Nat.mod_lt _ (Nat.two_pow_pos _)
theorem exval_lt {f : Fd} {D : List Nat} {m1 m2 : Nat} (ok : FdK f) (h1 : m1 < 2 ^ 32) (h2 : m2 < 2 ^ 16) : ∀ (e : Ex) (v : Nat), exval f D m1 m2 e = some v → v < 256 ^ f.sz
  | .fld _, v, h => fval_lt ok h1 h2 h
  | .op t e n, v, h => by
    obtain ⟨u, hu, rfl⟩ := Option.map_eq_some_iff.mp h
    exact opN_lt t (exval_lt ok h1 h2 e u hu)
theorem exval_none {f : Fd} {D : List Nat} {m1 m2 : Nat} : ∀ e : Ex, exval f D m1 m2 e = none ↔ fval f D m1 m2 = none
  | .fld _ => Iff.rfl
  | .op t e n => by simp [exval, exval_none e]
theorem pay_bits {D : List Nat} (hD : ∀ x ∈ D, x < 256) {first bits m : Nat} (hm : m = (first % 8 + bits + 7) / 8) (hb : 1 ≤ bits) (h : first + bits ≤ 8 * D.length) :
    first / 8 + m ≤ D.length ∧ num ((D.drop (first / 8)).take m) / 2 ^ (8 * m - first % 8 - bits) % 2 ^ bits = num D / 2 ^ (8 * D.length - (first + bits)) % 2 ^ bits := by
  have h1 := ar_fit hm h
  refine ⟨h1, ?_⟩
  rw [num_slice hD h1]
  have e1 := ar_split hm h1
  rw [e1, Nat.pow_add, ← pow256, ← Nat.div_div_eq_div_mul]
  generalize num D / 256 ^ (D.length - (first / 8 + m)) = x
  refine Nat.eq_of_testBit_eq fun i => ?_
  rw [Nat.testBit_mod_two_pow, Nat.testBit_mod_two_pow, Nat.testBit_div_two_pow, Nat.testBit_div_two_pow, pow256, Nat.testBit_mod_two_pow]
  by_cases hi : i < bits
  · have c := ar_cov (first % 8) bits
    rw [← hm] at c
    have := ar_in c hi
    simp [this]
  · simp [hi]
section
variable {k : Nat} {σ : Sg} {iS iP iM iR iO iF : Nat} {o : Bool} {D R : List Nat} {m1 m2 : Nat}
theorem setO_setO (a b : List Nat) : setO (setO σ iO a) iO b = setO σ iO b := by simp [setO]
theorem lk_pay : lookD ("payload" : Str) ["payload", "meta", "bitwise", "shift", "byteorder"] [.con (.ref 468), .con (.ref 475), .con (.ref 440), .con (.ref 447), .con (.ref 454)] = some (.con (.ref 468)) := rfl
theorem lk_met : lookD ("meta" : Str) ["payload", "meta", "bitwise", "shift", "byteorder"] [.con (.ref 468), .con (.ref 475), .con (.ref 440), .con (.ref 447), .con (.ref 454)] = some (.con (.ref 475)) := rfl
theorem lk_bit : lookD ("bitwise" : Str) ["payload", "meta", "bitwise", "shift", "byteorder"] [.con (.ref 468), .con (.ref 475), .con (.ref 440), .con (.ref 447), .con (.ref 454)] = some (.con (.ref 440)) := rfl
theorem lk_shi : lookD ("shift" : Str) ["payload", "meta", "bitwise", "shift", "byteorder"] [.con (.ref 468), .con (.ref 475), .con (.ref 440), .con (.ref 447), .con (.ref 454)] = some (.con (.ref 447)) := rfl
theorem lk_byt : lookD ("byteorder" : Str) ["payload", "meta", "bitwise", "shift", "byteorder"] [.con (.ref 468), .con (.ref 475), .con (.ref 440), .con (.ref 447), .con (.ref 454)] = some (.con (.ref 454)) := rfl
theorem run_bw (M : Mc σ iS iP iM iR iO iF o D m1 m2 R) {r s v : Nat} (l : Bool) (a b : Nat) (hr : 4 * r + (s + padl s) ≤ 64) (hR : (R.drop (4 * r)).take s = enc l v s) : Runs (k + 4) iS iR iP iF o [bwRow r (enc l a s) (enc l b s)] σ none (setO σ iO (putR R r (enc l ((v &&& a) ^^^ b) s))) := by
  have h := h_op_bitwise (k := k + 1) M r (enc l a s) (enc l b s) (enc_lt _ _ _) (enc_lt _ _ _) (by rw [enc_len, enc_len]) (by rw [enc_len]; exact hr)
  rw [enc_len, hR, bw_enc] at h
  exact .step M.s lk_bit h .nil
theorem run_sh (M : Mc σ iS iP iM iR iO iF o D m1 m2 R) {r s v : Nat} (side : Str) (n : Nat) (h0 : 0 < s) (hr : 4 * r + (s + padl s) ≤ 64) (hv : v < 256 ^ s) (hR : (R.drop (4 * r)).take s = enc false v s) : Runs (k + 4) iS iR iP iF o [shRow r s side n] σ none (setO σ iO (putR R r (enc false (shN side v s n) s))) := by
  have h := h_op_shift (k := k + 1) M r s side n h0 hr
  rw [hR, num_enc_false hv] at h
  exact .step M.s lk_shi h .nil
theorem run_bo (M : Mc σ iS iP iM iR iO iF o D m1 m2 R) {r s : Nat} (h0 : 0 < s) (hr : 4 * r + (s + padl s) ≤ 64) : Runs (k + 4) iS iR iP iF o [boRow r s] σ none (setO σ iO (putR R r (enc o (num ((R.drop (4 * r)).take s)) s))) :=
  .step M.s lk_byt (h_op_byteorder (k := k + 1) M r s h0 hr) .nil
theorem Mc.puts (M : Mc σ iS iP iM iR iO iF o D m1 m2 R) {r s : Nat} {l : List Nat} (hl : ∀ x ∈ l, x < 256) (hs : l.length = s) (hr : 4 * r + (s + padl s) ≤ 64) : Mc (setO σ iO (putR R r l)) iS iP iM iR iO iF o D m1 m2 (putR R r l) ∧ ((putR R r l).drop (4 * r)).take s = l := by
  subst hs
  exact ⟨M.put (putR_len M.g.n hr) (putR_lt M.g.b hl), putR_get M.g.n hr⟩
theorem run_none (M : Mc σ iS iP iM iR iO iF o D m1 m2 R) {f : Fd} (ok : FdK f) {r : Nat} (hr : 4 * r + (f.sz + padl f.sz) ≤ 64) (h : fval f D m1 m2 = none) : Runs (k + 4) iS iR iP iF o (fldRows f r) σ (some brk) σ := by
  cases f with
  | mt t b y => simp [fval] at h
  | pay first bits =>
    have hn : ¬ (first + bits ≤ 8 * D.length) := by
      intro z; simp [fval, z] at h
    have hc := h_op_payload (k := k + 1) M r (first / 8) (Fd.pay first bits).sz hr
    rw [if_neg (fun z => Nat.not_le_of_lt (ar_gt hn) (by rw [ar_dm]; exact z))] at hc
    exact .brk M.s lk_pay hc
theorem run_fld (M : Mc σ iS iP iM iR iO iF o D m1 m2 R) {f : Fd} (ok : FdK f) {r v : Nat} (h1 : m1 < 2 ^ 32) (h2 : m2 < 2 ^ 16) (hr : 4 * r + (f.sz + padl f.sz) ≤ 64) (h : fval f D m1 m2 = some v) : Runs (k + 4) iS iR iP iF o (fldRows f r) σ none (setO σ iO (putR R r (enc (lit f o) v f.sz))) := by
  have hlt := fval_lt ok h1 h2 h
  have hz := ok.ok.sz
  cases f with
  | mt t bits key =>
    have n12 : ¬ (("iiftype" : Str) = "mark") := by decide
    rcases ok with ⟨rfl, rfl⟩ | ⟨rfl, rfl⟩
    · have hv : v = m1 := by simp [fval] at h; exact h.symm
      subst hv
      exact .step M.s lk_met (h_op_meta (k := k) M r _ true hlt hz.1 (by lia) hr) .nil
    · have hv : v = m2 := by simp [fval, n12] at h; exact h.symm
      subst hv
      exact .step M.s lk_met (h_op_meta (k := k) M r _ false hlt hz.1 (by lia) hr) .nil
  | pay first bits =>
    have hin : first + bits ≤ 8 * D.length := by
      apply Classical.byContradiction; intro z; simp [fval, z] at h
    simp [fval, hin] at h
    obtain ⟨hfit, hpb⟩ := pay_bits M.db (sz_pay first bits) ok.1 hin
    rw [h] at hpb
    have hc := h_op_payload (k := k + 1) M r (first / 8) (Fd.pay first bits).sz hr
    rw [if_pos hfit] at hc
    generalize hs : (Fd.pay first bits).sz = s at *
    have hsz : s = (first % 8 + bits + 7) / 8 := by rw [← hs, sz_pay]
    have hlen := take_len hfit
    have hDb := drop_lt M.db (first / 8) s
    obtain ⟨M1, g1⟩ := M.puts hDb hlen hr
    have henc : (D.drop (first / 8)).take s = enc false (num ((D.drop (first / 8)).take s)) s := (digs_num' hDb hlen).symm
    have hV := num_lt _ hDb
    rw [hlen] at hV
    generalize hL : (D.drop (first / 8)).take s = L at *
    generalize num L = V at *
    have one : Runs (k + 4) iS iR iP iF o [fldRow (.pay first bits) r] σ none (setO σ iO (putR R r L)) := by
      have : fldRow (.pay first bits) r = .tup [.str "payload", dn r, .str "network", dn (first / 8), dn s] := by simp [fldRow, hs]
      rw [this]
      exact .step M.s lk_pay hc .nil
    show Runs _ _ _ _ _ _ (fldRow (.pay first bits) r :: cutRows r (Fd.pay first bits).sz (first % 8) bits) _ _ _
    rw [hs]
    refine Runs.app (a := [fldRow (.pay first bits) r]) one ?_
    have hg1 := g1.trans henc
    have plen : ∀ a : List Nat, a.length = s → putR (putR R r L) r a = putR R r a := fun a ha => putR_putR M.g.n (by lia) (by rw [hlen]; exact hr)
    generalize hB : 8 * s - first % 8 - bits = B at *
    by_cases hb0 : 0 < B
    · have b1 := run_bw (k := k) M1 false ((2 ^ bits - 1) * 2 ^ B) 0 hr hg1
      rw [Nat.xor_zero, setO_setO, plen _ (enc_len _ _ _)] at b1
      obtain ⟨M2, g2⟩ := M.puts (enc_lt false (V &&& (2 ^ bits - 1) * 2 ^ B) s) (enc_len _ _ _) hr
      have b2 := run_sh (k := k) M2 "right" B hz.1 hr (Nat.lt_of_le_of_lt Nat.and_le_left hV) g2
      rw [setO_setO, putR_putR M.g.n (by rw [enc_len, enc_len]) (by rw [enc_len]; exact hr)] at b2
      have hsh : shN "right" (V &&& (2 ^ bits - 1) * 2 ^ B) s B = v := by
        unfold shN
        rw [if_neg (by lia), if_neg (by decide), cut_bits]
        exact hpb
      rw [hsh] at b2
      simpa [hb0, show lit (.pay first bits) o = false from rfl] using b1.app b2
    · have hB0 : B = 0 := Nat.eq_zero_of_not_pos hb0
      subst hB0
      have hpb' : V % 2 ^ bits = v := by simpa using hpb
      by_cases ha : 0 < first % 8
      · have b1 := run_bw (k := k) M1 false ((2 ^ bits - 1) * 2 ^ 0) 0 hr hg1
        rw [Nat.xor_zero, setO_setO, plen _ (enc_len _ _ _)] at b1
        have hv : V &&& (2 ^ bits - 1) * 2 ^ 0 = v := by
          rw [Nat.pow_zero, Nat.mul_one, Nat.and_two_pow_sub_one_eq_mod]; exact hpb'
        rw [hv] at b1
        simpa [ha, show lit (.pay first bits) o = false from rfl] using b1
      · have hv : V = v := by
          have c := ar_cov (first % 8) bits
          rw [← hsz] at c
          have hb8 := ar_zero c hB ha
          rw [hb8, ← pow256, Nat.mod_eq_of_lt hV] at hpb'
          exact hpb'
        subst hv
        simp [ha]
        rw [show lit (.pay first bits) o = false from rfl, ← henc]
        exact .nil
end
end
section
theorem bit_off {v w i : Nat} (h : v < 2 ^ w) (hi : ¬ i < w) : v.testBit i = false := Nat.testBit_lt_two_pow (Nat.lt_of_lt_of_le h (Nat.pow_le_pow_right (n := 2) (by decide) (by omega)))
theorem bw_op {t : Tag} (ht : t = .mask ∨ t = .or ∨ t = .xor) {v s n : Nat} (hv : v < 256 ^ s) : (v &&& keepN t n (2 ^ (8 * s) - 1)) ^^^ turnN t n (2 ^ (8 * s) - 1) = opN t s n v := by
  rw [pow256] at hv
  refine Nat.eq_of_testBit_eq fun i => ?_
  by_cases hi : i < 8 * s
  · rcases ht with rfl | rfl | rfl <;> simp [keepN, turnN, opN, Nat.testBit_and, Nat.testBit_xor, Nat.testBit_or, Nat.testBit_mod_two_pow, Nat.testBit_two_pow_sub_one, hi]
    cases v.testBit i <;> cases n.testBit i <;> rfl
  · have := bit_off hv hi
    rcases ht with rfl | rfl | rfl <;> simp [keepN, turnN, opN, Nat.testBit_and, Nat.testBit_xor, Nat.testBit_or, Nat.testBit_mod_two_pow, Nat.testBit_two_pow_sub_one, hi, this]
theorem sh_op {t : Tag} (ht : t = .shl ∨ t = .shr) {v s n : Nat} (hv : v < 256 ^ s) : shN (sideS t) v s n = opN t s n v := by
  rw [pow256] at hv
  rcases ht with rfl | rfl
  · unfold shN
    rw [show sideS .shl = "left" from rfl]
    by_cases h : 8 * s ≤ n
    · rw [if_pos h]
      show 0 = v * 2 ^ n % 2 ^ (8 * s)
      rw [show n = 8 * s + (n - 8 * s) by omega, Nat.pow_add, ← Nat.mul_assoc, Nat.mul_right_comm, Nat.mul_mod_left]
    · rw [if_neg h, if_pos rfl]; rfl
  · unfold shN
    rw [show sideS .shr = "right" from rfl]
    by_cases h : 8 * s ≤ n
    · rw [if_pos h]
      show 0 = v / 2 ^ n
      exact (Nat.div_eq_of_lt (Nat.lt_of_lt_of_le hv (Nat.pow_le_pow_right (by decide) h))).symm
    · rw [if_neg h, if_neg (by decide)]; rfl
section
variable {k : Nat} {σ : Sg} {iS iP iM iR iO iF : Nat} {o : Bool} {D R : List Nat} {m1 m2 : Nat}
theorem run_op (M : Mc σ iS iP iM iR iO iF o D m1 m2 R) {f : Fd} (ok : FdK f) {r v : Nat} (hr : 4 * r + (f.sz + padl f.sz) ≤ 64) (hv : v < 256 ^ f.sz) (hR : (R.drop (4 * r)).take f.sz = enc (lit f o) v f.sz) (t : Tag) (n : Nat) :
    Runs (k + 4) iS iR iP iF o (opRows f o r t n) σ none (setO σ iO (putR R r (enc (lit f o) (opN t f.sz n v) f.sz))) := by
  have hz := ok.ok.sz
  have bw : ∀ t, t = Tag.mask ∨ t = .or ∨ t = .xor → Runs (k + 4) iS iR iP iF o [bwRow r (enc (lit f o) (keepN t n (2 ^ (8 * f.sz) - 1)) f.sz) (enc (lit f o) (turnN t n (2 ^ (8 * f.sz) - 1)) f.sz)] σ none (setO σ iO (putR R r (enc (lit f o) (opN t f.sz n v) f.sz))) := fun t ht => by
    have b := run_bw (k := k) M (lit f o) (keepN t n (2 ^ (8 * f.sz) - 1)) (turnN t n (2 ^ (8 * f.sz) - 1)) hr hR
    rwa [bw_op ht hv] at b
  have sh : ∀ t, t = Tag.shl ∨ t = .shr → Runs (k + 4) iS iR iP iF o ((if isMt f then [boRow r f.sz] else []) ++ [shRow r f.sz (sideS t) n] ++ (if isMt f then [boRow r f.sz] else [])) σ none (setO σ iO (putR R r (enc (lit f o) (opN t f.sz n v) f.sz))) := fun t ht => by
    have hw := opN_lt t (n := n) hv
    by_cases hm : isMt f = true
    · rw [if_pos hm]
      have hl : lit f o = o := by unfold lit; rw [hm]; rfl
      rw [hl] at hR ⊢
      have b1 := run_bo (k := k) M hz.1 hr
      rw [hR, enc_enc o v f.sz hv] at b1
      obtain ⟨M1, g1⟩ := M.puts (enc_lt false v f.sz) (enc_len _ _ _) hr
      have b2 := run_sh (k := k) M1 (sideS t) n hz.1 hr hv g1
      rw [setO_setO, putR_putR M.g.n (by rw [enc_len, enc_len]) (by rw [enc_len]; exact hr), sh_op ht hv] at b2
      obtain ⟨M2, g2⟩ := M.puts (enc_lt false (opN t f.sz n v) f.sz) (enc_len _ _ _) hr
      have b3 := run_bo (k := k) M2 hz.1 hr
      rw [g2, enc_false_num o _ _ hw, setO_setO, putR_putR M.g.n (by rw [enc_len, enc_len]) (by rw [enc_len]; exact hr)] at b3
      exact (b1.app b2).app b3
    · rw [if_neg hm]
      have hl : lit f o = false := by unfold lit; rw [Bool.not_eq_true _ |>.mp hm]; rfl
      rw [hl] at hR ⊢
      have b2 := run_sh (k := k) M (sideS t) n hz.1 hr hv hR
      rw [sh_op ht hv] at b2
      simpa using b2
  cases t with
  | mask => exact bw _ (.inl rfl)
  | or => exact bw _ (.inr (.inl rfl))
  | xor => exact bw _ (.inr (.inr rfl))
  | shl => exact sh _ (.inl rfl)
  | shr => exact sh _ (.inr rfl)
theorem run_ex (M : Mc σ iS iP iM iR iO iF o D m1 m2 R) {f : Fd} (ok : FdK f) {r : Nat} (h1 : m1 < 2 ^ 32) (h2 : m2 < 2 ^ 16) (hr : 4 * r + (f.sz + padl f.sz) ≤ 64) : ∀ (e : Ex) (v : Nat), exval f D m1 m2 e = some v →
    Runs (k + 4) iS iR iP iF o (exRows f o r e) σ none (setO σ iO (putR R r (enc (lit f o) v f.sz)))
  | .fld _, v, h => run_fld M ok h1 h2 hr h
  | .op t e n, v, h => by
    obtain ⟨u, hu, rfl⟩ := Option.map_eq_some_iff.mp h
    have ih := run_ex M ok h1 h2 hr e u hu
    obtain ⟨M1, g1⟩ := M.puts (enc_lt (lit f o) u f.sz) (enc_len _ _ _) hr
    have b := run_op (k := k) M1 ok hr (exval_lt ok h1 h2 e u hu) g1 t n
    rw [setO_setO, putR_putR M.g.n (by rw [enc_len, enc_len]) (by rw [enc_len]; exact hr)] at b
    exact ih.app b
theorem run_ex_none (M : Mc σ iS iP iM iR iO iF o D m1 m2 R) {f : Fd} (ok : FdK f) {r : Nat} (hr : 4 * r + (f.sz + padl f.sz) ≤ 64) : ∀ (e : Ex), exval f D m1 m2 e = none →
    Runs (k + 4) iS iR iP iF o (exRows f o r e) σ (some brk) σ
  | .fld _, h => run_none M ok hr h
  | .op t e n, h => by
    have h' : exval f D m1 m2 e = none := by simpa [exval] using h
    exact (run_ex_none M ok hr e h').stop
end
end
section
noncomputable def optV : Option Nat → DV
  | none => .none
  | some n => dn n
section
variable {k : Nat} {σ : Sg} {iS iP iM iR iO iF : Nat} {o : Bool} {D R : List Nat} {m1 m2 : Nat} {ks : List Str} {fs : List Fd}
theorem h_bits_of (hD : ∀ x ∈ D, x < 256) (hl : D.length ≤ 300) {first bits : Nat} (hb : 1 ≤ bits ∧ bits ≤ 200) : HH (k + 2) 159 [.ba (toB D), dn first, dn bits] σ = some (optV (fval (.pay first bits) D 0 0), σ) := by
  rw [h159]
  have l8 : (8 : Nat) < lim := lim_small (by decide)
  have l1 : (1 : Nat) < lim := lim_small (by decide)
  have d8 : ∀ a, binV .FloorDiv (dn a) (dn 8) = some (dn (a / 8)) := fun a => b_div (by decide) l8
  have hlen : primV σ .len [.ba (toB D)] = some (dn D.length) := by
    show (if (toB D).size ≤ big then some (DV.int (toB D).size) else none) = _
    rw [toB_size, if_pos (Nat.le_trans hl (by decide))]; rfl
  by_cases h : first + bits ≤ 8 * D.length
  · have he := ar_le h
    have hm := ar_sub first bits
    obtain ⟨p1, p2⟩ := pay_bits hD hm hb.1 h
    have hsl : sliceV σ (.ba (toB D)) (dn (first / 8)) (dn ((first + bits + 7) / 8)) .none = some (.ba (toB ((D.drop (first / 8)).take ((first + bits + 7) / 8 - first / 8)))) := by
      have hp := toB_pick D (first / 8) ((first + bits + 7) / 8) (by rw [ar_dm]; exact Nat.le_add_right _ _) he
      unfold sliceV
      rw [show partV (dn (first / 8)) = some (some ((first / 8 : Nat) : Int)) from rfl, show partV (dn ((first + bits + 7) / 8)) = some (some (((first + bits + 7) / 8 : Nat) : Int)) from rfl, show partV .none = some none from rfl]
      simp only [Option.bind_some]
      rw [show items σ (.ba (toB D)) = none from rfl, Option.elim_none, show bytesOf σ (.ba (toB D)) = some (toB D) from rfl, Option.bind_some, hp, if_pos]
      refine ⟨?_, trivial⟩
      rw [toB_size]
      refine Nat.le_trans ?_ (show 300 ≤ big by decide)
      simp; lia
    have hDb := drop_lt hD (first / 8) ((first + bits + 7) / 8 - first / 8)
    have hn := n8 (k := k) (σ := σ) hDb (by simp; lia) _ (.inr rfl)
    have m8 := b_mul l8 (lim_small (Nat.le_trans he (Nat.le_trans hl (by decide))))
    have s1 : binV .Sub (dn (8 * ((first + bits + 7) / 8))) (dn first) = some (dn (8 * ((first + bits + 7) / 8) - first)) := b_sub (Nat.le_trans (Nat.le_add_right _ _) (ar_cov first bits))
    have s2 : binV .Sub (dn (8 * ((first + bits + 7) / 8) - first)) (dn bits) = some (dn (8 * ((first + bits + 7) / 8) - first - bits)) := b_sub (Nat.le_sub_of_add_le' (ar_cov first bits))
    have s3 : binV .LShift (dn 1) (dn bits) = some (dn (2 ^ bits)) := by rw [b_shl l1 (Nat.le_trans (show _ ≤ 200 by lia) (by decide)), Nat.one_mul]
    have s4 : binV .Sub (dn (2 ^ bits)) (dn 1) = some (dn (2 ^ bits - 1)) := b_sub Nat.one_le_two_pow
    have hv : fval (.pay first bits) D 0 0 = some (num ((D.drop (first / 8)).take ((first + bits + 7) / 8 - first / 8)) / 2 ^ (8 * ((first + bits + 7) / 8) - first - bits) % 2 ^ bits) := by
      unfold fval
      simp only [h, if_true]
      rw [← p2, ar_bel, ← hm]
    rw [hv]
    have hgt := Nat.not_lt.mpr he
    exact walk (.v _ :: .v _ :: .v _ :: .v _ :: .v _ :: .b _ :: .v _ :: .v _ :: .v _ :: .v _ :: .c _ _ :: .v _ :: .v _ :: .v _ :: .v _ :: []) fun w =>
      w (d8 _) b_add b_add (d8 _) hlen (cN c_gt hgt) m8 s1 s2 hsl hn b_shr s3 s4 (b_low _ _)
  · have hv : fval (.pay first bits) D 0 0 = none := by unfold fval; simp [h]
    have hgt := ar_gt h
    rw [hv]
    exact walk (.v _ :: .v _ :: .v _ :: .v _ :: .v _ :: .b _ :: []) fun w => w (d8 _) b_add b_add (d8 _) hlen (cB c_gt hgt)
theorem fval_pay (first bits : Nat) (m1 m2 : Nat) : fval (.pay first bits) D m1 m2 = fval (.pay first bits) D 0 0 := rfl
theorem h_field_bits (M : Mc σ iS iP iM iR iO iF o D m1 m2 R) {first bits : Nat} (hb : 1 ≤ bits ∧ bits ≤ 200) : HH (k + 3) 320 [.inst 288 iP, .str "network", dn first, dn bits] σ = some (optV (fval (.pay first bits) D m1 m2), σ) := by
  rw [h320, fval_pay]
  have l2 : (2 : Nat) ≤ big := tup_le (by decide)
  have hbase : HH (k + 2) 306 [.inst 288 iP, .str "network"] σ = some (.tup [.ba (toB D), dn 0], σ) := by
    rw [h306]
    exact walk (.b _ :: .v _ :: []) fun w => w (sEq "network") (att_of M.p lk_data)
  have hbo := h_bits_of (k := k) (σ := σ) M.db M.dl (first := first) hb
  have m0 : binV .Mult (dn 0) (dn 8) = some (dn 0) := by rw [b_mul (lim_small (by decide)) (lim_small (by decide))]
  have z : binV .Add (dn 0) (dn first) = some (dn first) := by rw [b_add, Nat.zero_add]
  exact walk (.c _ _ :: .r :: .b _ :: .r :: .r :: .v _ :: .v _ :: .c _ _ :: []) fun w => w hbase (cN c_lt (Nat.not_lt_zero _)) m0 z hbo
theorem h_needs_met : HH (k + 2) 349 [.inst 338 iS, .str "th"] σ = some (.bool true, σ) := by kernel_rfl
theorem h_read_payload (M : Mc σ iS iP iM iR iO iF o D m1 m2 R) {first bits : Nat} (hb : 1 ≤ bits ∧ bits ≤ 200) : HH (k + 4) 391 [.inst 338 iS, fdv (.pay first bits)] σ = some (optV (fval (.pay first bits) D m1 m2), σ) := by
  rw [h391]
  have h1 := h_needs_met (k := k + 1) (σ := σ) (iS := iS)
  have h2 := h_field_bits (k := k) M (first := first) hb
  exact walk (.r :: .c _ _ :: .v _ :: .r :: .c _ _ :: []) fun w => w h1 (att_of M.s lk_packet) h2
theorem h_read_meta (M : Mc σ iS iP iM iR iO iF o D m1 m2 R) (t : Str) (bits : Nat) (b : Bool) : HH (k + 2) 398 [.inst 338 iS, fdv (.mt t bits (keyS b))] σ = some (dn (keyN b m1 m2), σ) := by
  rw [h398]
  have h1 := h_meta_value (k := k) M b
  exact walk (.r :: .c _ _ :: []) fun w => w h1
theorem h_value_fld (M : Mc σ iS iP iM iR iO iF o D m1 m2 R) (F : Fls σ iF ks fs) {x : Str} {f : Fd} (ok : FdK f) (h : lookF x ks fs = some f) : HH (k + 6) 377 [.inst 338 iS, exv (.fld x)] σ = some (optV (fval f D m1 m2), σ) := by
  rw [h377]
  have hx : exv (.fld x) = .tup [.str "field", .str x] := rfl
  have hD := look_fdv x ks fs
  rw [h, Option.map_some] at hD
  cases f with
  | pay first bits =>
    have h1 := h_read_payload (k := k) M (first := first) ok
    have h2 : HH (k + 5) 363 [.inst 338 iS, .str "payload", fdv (.pay first bits)] σ = some (optV (fval (.pay first bits) D m1 m2), σ) := by
      rw [h363]
      exact walk (.v _ :: .r :: .v _ :: .r :: .c _ _ :: []) fun w => w (att_of M.s lk_readers) (show getV σ (.dct ["payload", "meta"] [.con (.ref 391), .con (.ref 398)]) (.str "payload") = some (.con (.ref 391)) by kernel_rfl) h1
    have hf : fdv (.pay first bits) = .tup [.str "payload", .str "integer", dn bits, .str "big", .tup [.str "th", .str "network", dn first]] := rfl
    rw [hf] at h2 hD
    exact walk (.r :: .b _ :: .v _ :: .b _ :: .r :: .v _ :: .r :: .r :: .c _ _ :: []) fun w => w (sEq "field") (att_of M.s lk_sfields) (dctQ_of F.d) (get_of' F.d hD) h2
  | mt t bits key =>
    have n12 : ¬ (("iiftype" : Str) = "mark") := by decide
    obtain ⟨b, hb, hv⟩ : ∃ b, key = keyS b ∧ fval (.mt t bits key) D m1 m2 = some (keyN b m1 m2) := by
      rcases ok with ⟨rfl, _⟩ | ⟨rfl, _⟩
      · exact ⟨true, rfl, by simp [fval, keyN]⟩
      · exact ⟨false, rfl, by simp [fval, keyN, n12]⟩
    subst hb
    have h1 := h_read_meta (k := k + 2) M t bits b
    have h2 : HH (k + 5) 363 [.inst 338 iS, .str "meta", fdv (.mt t bits (keyS b))] σ = some (dn (keyN b m1 m2), σ) := by
      rw [h363]
      exact walk (.v _ :: .r :: .v _ :: .r :: .c _ _ :: []) fun w => w (att_of M.s lk_readers) (show getV σ (.dct ["payload", "meta"] [.con (.ref 391), .con (.ref 398)]) (.str "meta") = some (.con (.ref 398)) by kernel_rfl) h1
    have hf : fdv (.mt t bits (keyS b)) = .tup [.str "meta", .str t, dn bits, .str "host", .str (keyS b)] := rfl
    rw [hf] at h2 hD
    rw [hv]
    exact walk (.r :: .b _ :: .v _ :: .b _ :: .r :: .v _ :: .r :: .r :: .c _ _ :: []) fun w => w (sEq "field") (att_of M.s lk_sfields) (dctQ_of F.d) (get_of' F.d hD) h2
noncomputable def ExOk : Ex → Prop
  | .fld _ => True
  | .op t e n => ((t = .shl ∨ t = .shr) → n ≤ 100) ∧ ExOk e
theorem tag_ne (t : Tag) : ¬ (tagS t = ("field" : Str)) ∧ ¬ (tagS t = ("num" : Str)) := by cases t <;> decide
theorem h_value (M : Mc σ iS iP iM iR iO iF o D m1 m2 R) (F : Fls σ iF ks fs) {f : Fd} (ok : FdK f) (q1 : m1 < 2 ^ 32) (q2 : m2 < 2 ^ 16) : ∀ (e : Ex) (k : Nat), e.dep < 50 → ExOk e → lookF e.base ks fs = some f → HH (k + 6 + 2 * e.dep) 377 [.inst 338 iS, exv e] σ = some (optV (exval f D m1 m2 e), σ)
  | .fld x, k, _, _, h => h_value_fld M F ok h
  | .op t e n, k, he, ek, h => by
    simp only [Ex.dep] at he
    have ih := h_value M F ok q1 q2 e k (by lia) ek.2 h
    have hz := ok.ok.sz
    have hx : exv (.op t e n) = .tup [.str (tagS t), exv e, dn n] := rfl
    have hsz : HH (k + 3 + 2 * e.dep + 2) 356 [.inst 338 iS, .tup [.str (tagS t), exv e, dn n]] σ = some (dn f.sz, σ) := by
      have hs := h_size (k := k + 1 + 2 * e.dep) (e := .op t e n) F (by simp [Ex.dep]; lia) h
      rw [hx, show k + 1 + 2 * e.dep + 3 = k + 3 + 2 * e.dep + 1 by lia] at hs
      rw [h356]
      exact walk (.v _ :: .c _ _ :: []) fun w => w (att_of M.s lk_sfields) hs
    have l1 : (1 : Nat) < lim := lim_small (by decide)
    have l2 : (2 : Nat) ≤ big := tup_le (by decide)
    have l3 : (3 : Nat) ≤ big := tup_le (by decide)
    have l5 : (5 : Nat) ≤ big := tup_le (by decide)
    have m8 := b_mul (lim_small (show 8 ≤ 100000 by decide)) (lim_small (show f.sz ≤ 100000 by lia))
    have s3 : binV .LShift (dn 1) (dn (8 * f.sz)) = some (dn (2 ^ (8 * f.sz))) := by rw [b_shl l1 (Nat.le_trans (show _ ≤ 240 by lia) (by decide)), Nat.one_mul]
    have s4 : binV .Sub (dn (2 ^ (8 * f.sz))) (dn 1) = some (dn (2 ^ (8 * f.sz) - 1)) := b_sub Nat.one_le_two_pow
    have e1 : k + 6 + 2 * (e.dep + 1) = k + 6 + 2 * e.dep + 1 + 1 := by lia
    have e2 : k + 3 + 2 * e.dep + 2 = k + 5 + 2 * e.dep := by lia
    have hw : HH (k + 6 + 2 * e.dep) 356 [.inst 338 iS, .tup [.str (tagS t), exv e, dn n]] σ = some (dn f.sz, σ) := by
      have hs := h_size (k := k + 2 + 2 * e.dep) (e := .op t e n) F (by simp [Ex.dep]; lia) h
      rw [hx, show k + 2 + 2 * e.dep + 3 = k + 5 + 2 * e.dep by lia] at hs
      rw [show k + 6 + 2 * e.dep = k + 5 + 2 * e.dep + 1 by lia, h356]
      exact walk (.v _ :: .c _ _ :: []) fun w => w (att_of M.s lk_sfields) hs
    have hm : HH (k + 6 + 2 * e.dep + 1) 370 [.inst 338 iS, .tup [.str (tagS t), exv e, dn n]] σ = some (optV (exval f D m1 m2 (.op t e n)), σ) := by
      rw [h370]
      cases hv : exval f D m1 m2 e with
      | none =>
        rw [hv] at ih
        rw [show exval f D m1 m2 (.op t e n) = none by simp only [exval, hv]; rfl]
        exact walk (.r :: .r :: .r :: .c _ _ :: .r :: []) fun w => w ih
      | some v =>
        have hlt := exval_lt ok q1 q2 e v hv
        rw [hv] at ih
        have lv : v < lim := lim_of hlt (by lia)
        cases t with
        | mask =>
          rw [show exval f D m1 m2 (.op .mask e n) = some (v &&& n) by simp only [exval, hv]; rfl]
          exact walk (.r :: .r :: .r :: .c _ _ :: .r :: .b _ :: .b _ :: .v _ :: []) fun w => w ih (show cmpV σ .In (.str (tagS .mask)) (.tup [.str "mask", .str "shr"]) = some true by kernel_rfl) (sEq "mask") b_and
        | shr =>
          rw [show exval f D m1 m2 (.op .shr e n) = some (v / 2 ^ n) by simp only [exval, hv]; rfl]
          exact walk (.r :: .r :: .r :: .c _ _ :: .r :: .b _ :: .b _ :: .v _ :: []) fun w => w ih (show cmpV σ .In (.str (tagS .shr)) (.tup [.str "mask", .str "shr"]) = some true by kernel_rfl) (sNe (by decide)) b_shr
        | shl =>
          have s5 := b_shl lv (Nat.le_trans (ek.1 (.inl rfl)) (show 100 ≤ big by decide))
          rw [show exval f D m1 m2 (.op .shl e n) = some (v * 2 ^ n % 2 ^ (8 * f.sz)) by simp only [exval, hv]; rfl]
          exact walk (.r :: .r :: .r :: .c _ _ :: .r :: .b _ :: .b _ :: .v _ :: .c _ _ :: .v _ :: .v _ :: .v _ :: .v _ :: []) fun w => w ih (show cmpV σ .In (.str (tagS .shl)) (.tup [.str "mask", .str "shr"]) = some false by kernel_rfl) (sEq "shl") s5 hw m8 s3 s4 (b_low _ _)
        | or =>
          rw [show exval f D m1 m2 (.op .or e n) = some ((v ||| n) % 2 ^ (8 * f.sz)) by simp only [exval, hv]; rfl]
          exact walk (.r :: .r :: .r :: .c _ _ :: .r :: .b _ :: .b _ :: .b _ :: .v _ :: .c _ _ :: .v _ :: .v _ :: .v _ :: .v _ :: []) fun w => w ih (show cmpV σ .In (.str (tagS .or)) (.tup [.str "mask", .str "shr"]) = some false by kernel_rfl) (sNe (by decide)) (sEq "or") b_or hw m8 s3 s4 (b_low _ _)
        | xor =>
          rw [show exval f D m1 m2 (.op .xor e n) = some ((v ^^^ n) % 2 ^ (8 * f.sz)) by simp only [exval, hv]; rfl]
          exact walk (.r :: .r :: .r :: .c _ _ :: .r :: .b _ :: .b _ :: .b _ :: .v _ :: .c _ _ :: .v _ :: .v _ :: .v _ :: .v _ :: []) fun w => w ih (show cmpV σ .In (.str (tagS .xor)) (.tup [.str "mask", .str "shr"]) = some false by kernel_rfl) (sNe (by decide)) (sNe (by decide)) b_xor hw m8 s3 s4 (b_low _ _)
    show HH (k + 6 + 2 * (e.dep + 1)) 377 _ _ = _
    rw [e1, h377, hx]
    exact walk (.r :: .b _ :: .b _ :: .b _ :: .c _ _ :: []) fun w => w (sNe (tag_ne t).1) (sNe (tag_ne t).2) (show cmpV σ .In (.str (tagS t)) (.tup [.str "mask", .str "or", .str "xor", .str "shl", .str "shr"]) = some true by cases t <;> kernel_rfl) hm
end
end
section
section
variable {k : Nat} {σ : Sg}
theorem enumL_map (l : List Nat) : ∀ n : Nat, enumL n (l.map dn) = (List.range l.length).map fun i => [dn (n + i), dn (l.getD i 0)] := by
  induction l with
  | nil => intro n; rfl
  | cons x l ih =>
    intro n
    rw [List.length_cons, List.range_succ_eq_map]
    show [dn n, dn x] :: enumL (n + 1) (l.map dn) = [dn (n + 0), dn x] :: ((List.range l.length).map Nat.succ).map fun i => [dn (n + i), dn ((x :: l).getD i 0)]
    rw [ih, List.map_map]
    congr 1
    refine List.map_congr_left fun i _ => ?_
    simp [Nat.add_assoc, Nat.add_comm 1 i]
theorem sum_num : ∀ l : List Nat, (l.zipIdx.map fun p => p.1 * 256 ^ p.2).sum = num l.reverse := by
  have key : ∀ (l : List Nat) (j : Nat), (∀ x ∈ l, True) → ((l.zipIdx j).map fun p => p.1 * 256 ^ p.2).sum = num l.reverse * 256 ^ j := by
    intro l
    induction l with
    | nil => intro j _; simp [num]
    | cons x l ih =>
      intro j _
      rw [List.zipIdx_cons, List.map_cons, List.sum_cons, ih (j + 1) (fun _ _ => trivial), List.reverse_cons, num_app, Nat.pow_succ]
      generalize num l.reverse = p; generalize 256 ^ j = z
      show x * z + p * (z * 256) = _
      rw [Nat.add_mul, Nat.mul_comm z 256, ← Nat.mul_assoc]; lia
  intro l
  have := key l 0 (fun _ _ => trivial)
  simpa using this
theorem sum_range (l : List Nat) : ((List.range l.length).map fun i => l.getD i 0 * 256 ^ i).sum = num l.reverse := by
  rw [← sum_num]
  congr 1
  refine List.ext_getElem (by simp) fun i h1 h2 => ?_
  simp at h1
  simp [List.getD_eq_getElem?_getD, h1]
theorem comp_enum {H : Hd} {n : Nat} {src elt : IE} {v w : Nat} {ρ : Rho} (l : List Nat) (g : Nat → DV) (h1 : ev H n src ρ σ = some (.lst (l.map dn), σ)) (h3 : l.length ≤ big) (hv : v < ρ.length) (hw : w < ρ.length)
    (h4 : ∀ q < l.length, ev H n elt ((ρ.set v (some (dn q))).set w (some (dn (l.getD q 0)))) σ = some (g q, σ)) : ev H (n + 1) (.comp .enum src [v, w] elt) ρ σ = some (.lst ((List.range l.length).map g), σ) := by
  have hits : itemsOf .enum (.lst (l.map dn)) = some ((List.range l.length).map fun i => [dn i, dn (l.getD i 0)]) := by
    show some (enumL 0 (l.map dn)) = _
    rw [enumL_map]; simp
  have e := comp_of (σ := σ) (H := H) (n := n) (ik := .enum) (src := src) (elt := elt) (vs := [v, w]) (ρ := ρ) (d := .lst (l.map dn)) (its := (List.range l.length).map fun i => [dn i, dn (l.getD i 0)]) (fun x => g (((x.head?.bind intD).getD 0).toNat)) h1 hits (by simpa using h3) fun x hx => by
      obtain ⟨q, hq, rfl⟩ := List.mem_map.mp hx
      have hw' : w < (ρ.set v (some (dn q))).length := by simpa using hw
      simp only [setAll, hv, hw', if_true, Option.bind_some]
      exact h4 q (List.mem_range.mp hq)
  rw [e, List.map_map]
  rfl
theorem sum_dn (l : List Nat) : primV σ .sum [.lst (l.map dn)] = some (dn l.sum) := by
  have e := intsL_dn id l
  simp only [id] at e
  show (intsL (l.map dn)).map (fun ns => DV.int ns.sum) = _
  rw [show l.map dn = l.map fun x => dn x from rfl, e, Option.map_some]
  show some (DV.int _) = some (DV.int ((l.sum : Nat) : Int))
  congr 2
  clear e
  induction l with
  | nil => rfl
  | cons x l ih =>
    rw [List.map_cons, List.sum_cons, List.sum_cons, ih]
    lia
end
end
section
noncomputable def marksV (m1 m2 : Nat) : DV := .dct ["mark", "iiftype"] [dn m1, dn m2]
noncomputable def dueV (f : Fd) (v : Option Nat) : DV := .tup [.str f.ord, dn (if v.isSome then f.sz else 0), optV v]
section
variable {k : Nat} {σ : Sg} {iF : Nat} {D : List Nat} {m1 m2 : Nat} {ks : List Str} {fs : List Fd}
theorem len_dn {l : List Nat} (h : l.length ≤ 300) : primV σ .len [.lst (l.map dn)] = some (dn l.length) := by
  show (if (l.map dn).length ≤ big then some (DV.int (l.map dn).length) else none) = _
  rw [if_pos (by rw [List.length_map]; exact Nat.le_trans h (by decide)), List.length_map]; rfl
theorem rev_dn {l : List Nat} (h : l.length ≤ 300) : sliceV σ (.lst (l.map dn)) .none .none (.int (-1)) = some (.lst (l.reverse.map dn)) := by
  unfold sliceV
  rw [show partV .none = some none from rfl, show partV (.int (-1)) = some (some (-1)) from rfl]
  simp only [Option.bind_some]
  show (if (l.map dn).length ≤ 2 ^ 20 ∧ (some (-1) : Option Int) ≠ some 0 then some (DV.lst (slPick (l.map dn) none none (some (-1)))) else none) = _
  rw [if_pos ⟨by rw [List.length_map]; exact Nat.le_trans h (by decide), by decide⟩, slPick_rev, List.map_reverse]
noncomputable def wl (l : List Nat) : List Nat := (List.range l.reverse.length).map fun i => l.reverse.getD i 0 * 256 ^ i
theorem wl_sum (l : List Nat) : primV σ .sum [.lst ((wl l).map dn)] = some (dn (num l)) := by
  rw [sum_dn]
  unfold wl
  rw [sum_range, List.reverse_reverse]
theorem whole_comp {H : Hd} {n : Nat} {ρ : Rho} (l : List Nat) (hl : l.length ≤ 300) (hb : ∀ x ∈ l, x < 256) {src : IE} (h1 : ev H (n + 2) src ρ σ = some (.lst (l.map dn), σ)) {v w : Nat} (hv : v < ρ.length) (hw : w < ρ.length) (hvw : v ≠ w) :
    ev H (n + 4) (.comp .enum (.sl src none none (some (.neg (.k (dn 1))))) [v, w] (.bin false .Mult (.v w) (.bin false .Pow (.k (dn 256)) (.v v)))) ρ σ = some (.lst ((wl l).map dn), σ) := by
  have hr := rev_dn (σ := σ) hl
  have hsl : ev H (n + 3) (.sl src none none (some (.neg (.k (dn 1))))) ρ σ = some (.lst (l.reverse.map dn), σ) := by
    exact bnd h1 (bnd rfl (bnd rfl (bnd rfl (bnd hr rfl))))
  have hc := comp_enum (n := n + 3) (elt := .bin false .Mult (.v w) (.bin false .Pow (.k (dn 256)) (.v v))) l.reverse (fun q => dn (l.reverse.getD q 0 * 256 ^ q)) hsl (by rw [List.length_reverse]; exact Nat.le_trans hl (by decide)) hv hw fun q hq => by
    have hq' : q < 300 := by rw [List.length_reverse] at hq; lia
    have p1 := b_pow (a := 256) (b := q) (by decide) (Nat.le_trans (Nat.le_of_lt hq') (by decide))
    have hx : l.reverse.getD q 0 < 256 := by
      rw [List.getD_eq_getElem?_getD, List.getElem?_eq_getElem hq]
      exact hb _ (by have := List.getElem_mem hq; simpa using this)
    have p2 := b_mul (a := l.reverse.getD q 0) (b := 256 ^ q) (lim_small (by lia)) (lim_of (l := q + 1) (Nat.pow_lt_pow_right (by decide) (Nat.lt_succ_self q)) (by lia))
    have g1 : ((ρ.set v (some (dn q))).set w (some (dn (l.reverse.getD q 0)))).getD w none = some (dn (l.reverse.getD q 0)) := by
      rw [List.getD_eq_getElem?_getD, List.getElem?_set_self (by simpa using hw)]; rfl
    have g2 : ((ρ.set v (some (dn q))).set w (some (dn (l.reverse.getD q 0)))).getD v none = some (dn q) := by
      rw [List.getD_eq_getElem?_getD, List.getElem?_set_ne (Ne.symm hvw), List.getElem?_set_self hv]; rfl
    generalize (ρ.set v (some (dn q))).set w (some (dn (l.reverse.getD q 0))) = ρ' at *
    simp only [ev_bin, ev_v, ev_k, g1, g2, Option.bind_some, p1, p2, fin_false]
  rw [hc]
  unfold wl
  rw [List.map_map]
  rfl
theorem h_due_fld (F : Fls σ iF ks fs) {x : Str} {f : Fd} (ok : FdK f) (hD : ∀ y ∈ D, y < 256) (hl : D.length ≤ 300) (q1 : m1 < 2 ^ 32) (h : lookF x ks fs = some f) : HH (k + 1) 508 [.lst (D.map dn), marksV m1 m2, .loc iF, exv (.fld x)] σ = some (dueV f (fval f D m1 m2), σ) := by
  rw [h508]
  have hDk := look_fdv x ks fs
  rw [h, Option.map_some] at hDk
  have d8 : ∀ a, binV .FloorDiv (dn a) (dn 8) = some (dn (a / 8)) := fun a => b_div (by decide) (lim_small (by decide))
  cases f with
  | mt t bits key =>
    have n12 : ¬ (("iiftype" : Str) = "mark") := by decide
    have n21 : ¬ (("mark" : Str) = "iiftype") := by decide
    have hf : fdv (.mt t bits key) = .tup [.str "meta", .str t, dn bits, .str "host", .str key] := rfl
    rw [hf] at hDk
    rcases ok with ⟨rfl, rfl⟩ | ⟨rfl, rfl⟩
    · exact walk (.r :: .b _ :: .r :: .v _ :: .b _ :: .v _ :: .v _ :: []) fun w => w (sEq "field") (key_of F.d hDk) (sEq "meta") (d8 32) (show subV σ (marksV m1 m2) (.str "mark") = some (dn m1) by kernel_rfl)
    · exact walk (.r :: .b _ :: .r :: .v _ :: .b _ :: .v _ :: .v _ :: []) fun w => w (sEq "field") (key_of F.d hDk) (sEq "meta") (d8 16) (show subV σ (marksV m1 m2) (.str "iiftype") = some (dn m2) by kernel_rfl)
  | pay first bits =>
    have npm : ¬ (("payload" : Str) = "meta") := by decide
    have hf : fdv (.pay first bits) = .tup [.str "payload", .str "integer", dn bits, .str "big", .tup [.str "th", .str "network", dn first]] := rfl
    rw [hf] at hDk
    have hlen := len_dn (σ := σ) hl
    have m8 := b_mul (lim_small (show 8 ≤ 100000 by decide)) (lim_small (show D.length ≤ 100000 by lia))
    by_cases hin : first + bits ≤ 8 * D.length
    · have hv : fval (.pay first bits) D m1 m2 = some (num D / 2 ^ (8 * D.length - (first + bits)) % 2 ^ bits) := by unfold fval; simp [hin]
      have hsz : (Fd.pay first bits).sz = (first + bits + 7) / 8 - first / 8 := (ar_sub first bits).symm
      rw [hv]
      have hgt : ¬ (8 * D.length < first + bits) := by lia
      have hw : ev (HH k) 61 (.comp .enum (.sl (.v 0) none none (some (.neg (.k (dn 1))))) [21, 22] (.bin false .Mult (.v 22) (.bin false .Pow (.k (dn 256)) (.v 21))))
          [some (.lst (D.map dn)), some (marksV m1 m2), some (.loc iF), some (.tup [.str "field", .str x]), some (.str "payload"), some (.str "integer"), some (dn bits), some (.str "big"), some (.tup [.str "th", .str "network", dn first]), some (dn first), some (dn (8 * D.length)), none, none, none, none, none, none, none, none, none, none, none, none] σ = some (.lst ((wl D).map dn), σ) :=
        whole_comp (n := 57) D hl hD rfl (Nat.le_of_ble_eq_true rfl) (Nat.le_of_ble_eq_true rfl) (by decide)
      have s1 : binV .Sub (dn ((first + bits + 7) / 8)) (dn (first / 8)) = some (dn ((first + bits + 7) / 8 - first / 8)) := b_sub (by rw [ar_dm]; exact Nat.le_add_right _ _)
      have s2 : binV .Sub (dn (8 * D.length)) (dn first) = some (dn (8 * D.length - first)) := b_sub (by lia)
      have s3 : binV .Sub (dn (8 * D.length - first)) (dn bits) = some (dn (8 * D.length - (first + bits))) := by rw [b_sub (by lia), Nat.sub_sub]
      have p1 := b_pow (a := 2) (b := 8 * D.length - (first + bits)) (by decide) (Nat.le_trans (show _ ≤ 2400 by lia) (by decide))
      have p2 := b_pow (a := 2) (b := bits) (by decide) (Nat.le_trans (show _ ≤ 200 from ok.2) (by decide))
      have lp : 2 ^ (8 * D.length - (first + bits)) < lim := by unfold lim; exact Nat.pow_lt_pow_right (by decide) (by lia)
      have d1 := b_div (a := num D) (Nat.two_pow_pos _) lp
      have d2 := b_mod (a := num D / 2 ^ (8 * D.length - (first + bits))) (Nat.two_pow_pos bits)
      rw [show dueV (.pay first bits) (some (num D / 2 ^ (8 * D.length - (first + bits)) % 2 ^ bits)) = .tup [.str "big", dn ((first + bits + 7) / 8 - first / 8), dn (num D / 2 ^ (8 * D.length - (first + bits)) % 2 ^ bits)] by rw [← hsz]; rfl]
      exact walk (.r :: .b _ :: .r :: .v _ :: .b _ :: .r :: .v _ :: .v _ :: .v _ :: .b _ :: .c _ _ :: .v _ :: .v _ :: .v _ :: .v _ :: .v _ :: .v _ :: .v _ :: .v _ :: .v _ :: .v _ :: .v _ :: .v _ :: []) fun w =>
        w (sEq "field") (key_of F.d hDk) (sNe npm) hlen m8 b_add (cN c_gt hgt) hw (wl_sum D) b_add b_add (d8 _) (d8 _) s1 s2 s3 p1 d1 p2 d2
    · have hv : fval (.pay first bits) D m1 m2 = none := by unfold fval; simp [hin]
      rw [hv]
      have hgt : 8 * D.length < first + bits := by lia
      exact walk (.r :: .b _ :: .r :: .v _ :: .b _ :: .r :: .v _ :: .v _ :: .v _ :: .b _ :: []) fun w => w (sEq "field") (key_of F.d hDk) (sNe npm) hlen m8 b_add (cB c_gt hgt)
end
end
section
noncomputable def bitOp (t : Tag) (a b : Nat) : Nat := match t with
  | .mask => a * b
  | .or => max a b
  | _ => (a + b) % 2
noncomputable def mixN (t : Tag) (v n : Nat) : Nat := match t with
  | .mask => v &&& n
  | .or => v ||| n
  | _ => v ^^^ n
theorem bitOp_mix (t : Tag) (v n i : Nat) : bitOp t (v / 2 ^ i % 2) (n / 2 ^ i % 2) = mixN t v n / 2 ^ i % 2 := by
  have h1 : ∀ x : Nat, x / 2 ^ i % 2 = (x.testBit i).toNat := fun x => by
    rw [Nat.testBit_eq_decide_div_mod_eq]
    rcases Nat.mod_two_eq_zero_or_one (x / 2 ^ i) with h | h <;> rw [h] <;> rfl
  rw [h1, h1, h1]
  cases t <;> simp only [bitOp, mixN, Nat.testBit_and, Nat.testBit_or, Nat.testBit_xor] <;> cases v.testBit i <;> cases n.testBit i <;> rfl
theorem mod_step (x i : Nat) : x % 2 ^ i + 2 ^ i * (x / 2 ^ i % 2) = x % 2 ^ (i + 1) := by
  rw [Nat.pow_succ, Nat.mod_mul]
theorem mix_op {t : Tag} (ht : t = .mask ∨ t = .or ∨ t = .xor) {v s n : Nat} (hv : v < 256 ^ s) : mixN t v n % 2 ^ (8 * s) = opN t s n v := by
  rw [pow256] at hv
  rcases ht with rfl | rfl | rfl
  · exact Nat.mod_eq_of_lt (Nat.lt_of_le_of_lt Nat.and_le_left hv)
  · rfl
  · rfl
section
variable {k : Nat} {σ : Sg} {iF : Nat} {D : List Nat} {m1 m2 : Nat} {ks : List Str} {fs : List Fd}
theorem max_dn (a b : Nat) : primV σ .max [dn a, dn b] = some (dn (max a b)) := by
  show some (DV.int (max (a : Int) b)) = some (DV.int ((max a b : Nat) : Int))
  congr 2; lia
theorem bit_look (t : Tag) (ht : t = .mask ∨ t = .or ∨ t = .xor) (a b : Nat) : lookD (tagS t) ["mask", "or", "xor"] [dn (a * b), dn (max a b), dn ((a + b) % 2)] = some (dn (bitOp t a b)) := by
  rcases ht with rfl | rfl | rfl <;> rfl
theorem due_turn {H : Hd} {t : Tag} (ht : t = .mask ∨ t = .or ∨ t = .xor) {v n i s : Nat} (hv : v < 256 ^ s) (hs : s ≤ 30) (hi : i < 8 * s) (x0 x1 x2 x3 x4 x5 x6 x7 x8 x9 x10 x12 x14 x16 x19 x20 x21 x22 : Option DV) :
    exL (ex H 63) [.asgs true [(.nm 19), (.nm 20)] (.tup [(.bin false .Mod (.bin false .FloorDiv (.v 17) (.bin false .Pow (.k (dn 2)) (.v 11))) (.k (dn 2))), (.bin false .Mod (.bin false .FloorDiv (.v 15) (.bin false .Pow (.k (dn 2)) (.v 11))) (.k (dn 2)))]),
    .asg (.nm 18) (.bin false .Add (.v 18) (.bin false .Mult (.bin false .Pow (.k (dn 2)) (.v 11)) (.sub (.dct false ["mask", "or", "xor"] [(.bin false .Mult (.v 19) (.v 20)), (.prim false .max [(.v 19), (.v 20)]), (.bin false .Mod (.bin false .Add (.v 19) (.v 20)) (.k (dn 2)))]) (.v 13))))] [x0, x1, x2, x3, x4, x5, x6, x7, x8, x9, x10, some (dn i), x12, some (.str (tagS t)), x14, some (dn n), x16, some (dn v), some (dn (mixN t v n % 2 ^ i)), x19, x20, x21, x22] σ =
    some (.next, [x0, x1, x2, x3, x4, x5, x6, x7, x8, x9, x10, some (dn i), x12, some (.str (tagS t)), x14, some (dn n), x16, some (dn v), some (dn (mixN t v n % 2 ^ (i + 1))), some (dn (v / 2 ^ i % 2)), some (dn (n / 2 ^ i % 2)), x21, x22], σ) := by
  have p1 := b_pow (a := 2) (b := i) (by decide) (Nat.le_trans (show i ≤ 240 by lia) (by decide))
  have lp : 2 ^ i < lim := by unfold lim; exact Nat.pow_lt_pow_right (by decide) (by lia)
  have d1 := b_div (a := v) (Nat.two_pow_pos i) lp
  have d2 := b_div (a := n) (Nat.two_pow_pos i) lp
  have m2 : ∀ a, binV .Mod (dn a) (dn 2) = some (dn (a % 2)) := fun a => b_mod (by decide)
  have ll : ∀ a, a % 2 < lim := fun a => lim_small (by lia)
  have mul := b_mul (ll (v / 2 ^ i)) (ll (n / 2 ^ i))
  have mul2 := b_mul lp (ll (mixN t v n / 2 ^ i))
  have bl := bit_look t ht (v / 2 ^ i % 2) (n / 2 ^ i % 2)
  rw [bitOp_mix] at bl
  have st := mod_step (mixN t v n) i
  have nd : (["mask", "or", "xor"] : List Str).Nodup := by decide
  have hdct : ∀ ρ : Rho, ρ.getD 19 none = some (dn (v / 2 ^ i % 2)) → ρ.getD 20 none = some (dn (n / 2 ^ i % 2)) → ev H 59 (.dct false ["mask", "or", "xor"] [(.bin false .Mult (.v 19) (.v 20)), (.prim false .max [(.v 19), (.v 20)]), (.bin false .Mod (.bin false .Add (.v 19) (.v 20)) (.k (dn 2)))]) ρ σ = some (.dct ["mask", "or", "xor"] [dn (v / 2 ^ i % 2 * (n / 2 ^ i % 2)), dn (max (v / 2 ^ i % 2) (n / 2 ^ i % 2)), dn ((v / 2 ^ i % 2 + n / 2 ^ i % 2) % 2)], σ) := fun ρ h1 h2 => by
    rw [ev_dct, if_pos ⟨by decide, rfl, nd⟩]
    simp only [evL_cons, evL_nil, ev_bin, ev_prim, ev_v, ev_k, h1, h2, Option.bind_some, mul, max_dn, b_add, m2, fin_false]
  have st' := (b_add (a := mixN t v n % 2 ^ i) (b := 2 ^ i * (mixN t v n / 2 ^ i % 2))).trans (congrArg (fun x => some (dn x)) st)
  exact walkL (.v _ :: .v _ :: .v _ :: .v _ :: .v _ :: .v _ :: .v _ :: .c _ _ :: .v _ :: .v _ :: .v _ :: []) fun w => w p1 d1 (m2 _) p1 d2 (m2 _) p1 (hdct _ rfl rfl) (dct_key bl) mul2 st'
end
end
section
section
variable {k : Nat} {σ : Sg} {iF : Nat} {D : List Nat} {m1 m2 : Nat} {ks : List Str} {fs : List Fd}
theorem due_loop {H : Hd} {t : Tag} (ht : t = .mask ∨ t = .or ∨ t = .xor) {v n s : Nat} (hv : v < 256 ^ s) (hs : s ≤ 30) (x0 x1 x2 x3 x4 x5 x6 x7 x8 x9 x10 x12 x14 x16 x21 x22 : Option DV) : ∀ (m i : Nat) (x11 x19 x20 : Option DV), i + m = 8 * s →
    ∃ y11 y19 y20, forL (fun x ρ' s => (setAll ρ' [11] x).bind fun ρ'' => exL (ex H 63) [.asgs true [(.nm 19), (.nm 20)] (.tup [(.bin false .Mod (.bin false .FloorDiv (.v 17) (.bin false .Pow (.k (dn 2)) (.v 11))) (.k (dn 2))), (.bin false .Mod (.bin false .FloorDiv (.v 15) (.bin false .Pow (.k (dn 2)) (.v 11))) (.k (dn 2)))]),
    .asg (.nm 18) (.bin false .Add (.v 18) (.bin false .Mult (.bin false .Pow (.k (dn 2)) (.v 11)) (.sub (.dct false ["mask", "or", "xor"] [(.bin false .Mult (.v 19) (.v 20)), (.prim false .max [(.v 19), (.v 20)]), (.bin false .Mod (.bin false .Add (.v 19) (.v 20)) (.k (dn 2)))]) (.v 13))))] ρ'' s) ((List.range' i m).map fun (q : Nat) => [DV.int (q : Int)]) [x0, x1, x2, x3, x4, x5, x6, x7, x8, x9, x10, x11, x12, some (.str (tagS t)), x14, some (dn n), x16, some (dn v), some (dn (mixN t v n % 2 ^ i)), x19, x20, x21, x22] σ =
      some (.next, [x0, x1, x2, x3, x4, x5, x6, x7, x8, x9, x10, y11, x12, some (.str (tagS t)), x14, some (dn n), x16, some (dn v), some (dn (mixN t v n % 2 ^ (8 * s))), y19, y20, x21, x22], σ)
  | 0, i, x11, x19, x20, h => by
    have : i = 8 * s := by lia
    subst this
    exact ⟨x11, x19, x20, rfl⟩
  | m + 1, i, x11, x19, x20, h => by
    obtain ⟨y11, y19, y20, e⟩ := due_loop ht hv hs x0 x1 x2 x3 x4 x5 x6 x7 x8 x9 x10 x12 x14 x16 x21 x22 m (i + 1) (some (dn i)) (some (dn (v / 2 ^ i % 2))) (some (dn (n / 2 ^ i % 2))) (by lia)
    refine ⟨y11, y19, y20, ?_⟩
    rw [List.range'_succ, List.map_cons]
    refine Eq.trans (forL_step ?_) e
    have tr := due_turn (H := H) (σ := σ) ht (n := n) hv hs (show i < 8 * s by lia) x0 x1 x2 x3 x4 x5 x6 x7 x8 x9 x10 x12 x14 x16 x19 x20 x21 x22
    exact tr
theorem h_due (F : Fls σ iF ks fs) {f : Fd} (ok : FdK f) (hD : ∀ y ∈ D, y < 256) (hl : D.length ≤ 300) (q1 : m1 < 2 ^ 32) (q2 : m2 < 2 ^ 16) : ∀ (e : Ex) (k : Nat), ExOk e → (lookF e.base ks fs = some f) →
    HH (k + 1 + e.dep) 508 [.lst (D.map dn), marksV m1 m2, .loc iF, exv e] σ = some (dueV f (exval f D m1 m2 e), σ)
  | .fld x, k, _, h => h_due_fld F ok hD hl q1 h
  | .op t e n, k, ek, h => by
    have ih := h_due F ok hD hl q1 q2 e k ek.2 h
    have hz := ok.ok.sz
    have hx : exv (.op t e n) = .tup [.str (tagS t), exv e, dn n] := rfl
    have e1 : k + 1 + (Ex.op t e n).dep = k + 1 + e.dep + 1 := rfl
    rw [e1, h508, hx]
    have n1 := (tag_ne t).1
    cases hv : exval f D m1 m2 e with
    | none =>
      rw [hv] at ih
      replace ih := ih
      rw [show exval f D m1 m2 (.op t e n) = none by simp only [exval, hv]; rfl]
      exact walk (.r :: .b _ :: .c _ _ :: .r :: []) fun w => w (sNe n1) ih
    | some v =>
      have hlt := exval_lt ok q1 q2 e v hv
      rw [hv] at ih
      replace ih := ih
      have lv : v < lim := lim_of hlt (by lia)
      have m8 := b_mul (lim_small (show 8 ≤ 100000 by decide)) (lim_small (show f.sz ≤ 100000 by lia))
      have fin : ∀ t' (ht : t' = Tag.mask ∨ t' = .or ∨ t' = .xor), t = t' → runF (HH (k + 1 + e.dep)) f_law_due [.lst (D.map dn), marksV m1 m2, .loc iF, .tup [.str (tagS t'), exv e, dn n]] σ = some (dueV f (exval f D m1 m2 (.op t' e n)), σ) := fun t' ht htt => by
        subst htt
        obtain ⟨y11, y19, y20, el⟩ := due_loop (H := HH (k + 1 + e.dep)) (σ := σ) ht (n := n) hlt hz.2 (some (.lst (D.map dn))) (some (marksV m1 m2)) (some (.loc iF)) (some (.tup [.str (tagS t), exv e, dn n])) none none none (some (.str f.ord)) none none none none (some (exv e)) (some (dn f.sz)) none none (8 * f.sz) 0 none none none (by lia)
        rw [Nat.pow_zero, Nat.mod_one, mix_op ht hlt] at el
        have hloop := for_of (H := HH (k + 1 + e.dep)) (n := 63) (vs := [11]) (ik := .range) (src := .bin false .Mult (.k (dn 8)) (.v 16)) (σ := σ) (σ₁ := σ) (d := dn (8 * f.sz)) (its := (List.range' 0 (8 * f.sz)).map fun (q : Nat) => [DV.int (q : Int)]) (by exact walkE (.v _ :: []) fun w => w m8)
          (by
            show (if (0 : Int) ≤ (8 * f.sz : Nat) ∧ ((8 * f.sz : Nat) : Int) ≤ big then _ else _) = _
            have hb : (240 : Nat) ≤ big := by decide
            rw [if_pos ⟨by lia, by lia⟩, Int.toNat_natCast, List.range_eq_range'])
          (by simp; exact Nat.le_trans (show 8 * f.sz ≤ 240 by lia) (by decide)) el
        have nsh : ¬ (tagS t = ("shl" : Str)) ∧ ¬ (tagS t = ("shr" : Str)) := by rcases ht with rfl | rfl | rfl <;> decide
        rw [show exval f D m1 m2 (.op t e n) = some (opN t f.sz n v) by simp only [exval, hv]; rfl]
        have hin : cmpV σ .In (.str (tagS t)) (.lst [.str "shl", .str "shr"]) = some false := by rcases ht with rfl | rfl | rfl <;> kernel_rfl
        exact walk (.r :: .b _ :: .c _ _ :: .r :: .b _ :: .s _ _ _ :: []) fun w => w (sNe n1) ih hin hloop
      cases t with
      | shl =>
        have hn := ek.1 (.inl rfl)
        have p1 := b_pow (a := 2) (b := n) (by decide) (Nat.le_trans hn (by decide))
        have p2 := b_pow (a := 256) (b := f.sz) (by decide) (Nat.le_trans (show _ ≤ 30 by lia) (by decide))
        have lp : 2 ^ n < lim := by unfold lim; exact Nat.pow_lt_pow_right (by decide) (by lia)
        have mu := b_mul lv lp
        have md := b_mod (a := v * 2 ^ n) (Nat.pow_pos (n := f.sz) (show 0 < 256 by decide))
        rw [pow256] at p2 md
        rw [show exval f D m1 m2 (.op .shl e n) = some (v * 2 ^ n % 2 ^ (8 * f.sz)) by simp only [exval, hv]; rfl]
        exact walk (.r :: .b _ :: .c _ _ :: .r :: .b _ :: .b _ :: .v _ :: .v _ :: .v _ :: .v _ :: []) fun w => w (sNe n1) ih (show cmpV σ .In (.str (tagS .shl)) (.lst [.str "shl", .str "shr"]) = some true by kernel_rfl) (sEq "shl") p1 mu p2 md
      | shr =>
        have hn := ek.1 (.inr rfl)
        have p1 := b_pow (a := 2) (b := n) (by decide) (Nat.le_trans hn (by decide))
        have lp : 2 ^ n < lim := by unfold lim; exact Nat.pow_lt_pow_right (by decide) (by lia)
        have dv := b_div (a := v) (Nat.two_pow_pos n) lp
        rw [show exval f D m1 m2 (.op .shr e n) = some (v / 2 ^ n) by simp only [exval, hv]; rfl]
        exact walk (.r :: .b _ :: .c _ _ :: .r :: .b _ :: .b _ :: .v _ :: .v _ :: []) fun w => w (sNe n1) ih (show cmpV σ .In (.str (tagS .shr)) (.lst [.str "shl", .str "shr"]) = some true by kernel_rfl) (sNe (by decide)) p1 dv
      | mask => exact fin .mask (.inl rfl) rfl
      | or => exact fin .or (.inr (.inl rfl)) rfl
      | xor => exact fin .xor (.inr (.inr rfl)) rfl
end
end
section
section
variable {k : Nat} {σ : Sg}
theorem h_law_octets (n s : Nat) (little : Bool) (hs : s ≤ 300) : HH (k + 1) 513 [dn n, dn s, .bool little] σ = some (.lst ((enc little n s).map dn), σ) := by
  rw [h513]
  have hcomp : ev (HH k) 63 (.comp .range (.v 1) [4] (.bin false .Mod (.bin false .FloorDiv (.v 0) (.bin false .Pow (.k (dn 256)) (.v 4))) (.k (dn 256)))) [some (dn n), some (dn s), some (.bool little), none, none, none] σ = some (.lst ((digs n s).map dn), σ) := by
    rw [comp_range (m := s) (fun q => dn (n / 256 ^ q % 256)) rfl (Nat.le_trans hs (by decide)) (by simp) fun q hq => ?_, digs_eq, List.map_map]
    · rfl
    · have p1 := b_pow (a := 256) (b := q) (by decide) (Nat.le_trans (show q ≤ 300 by lia) (by decide))
      have lp : 256 ^ q < lim := lim_of (l := q + 1) (Nat.pow_lt_pow_right (by decide) (Nat.lt_succ_self q)) (by lia)
      have d1 := b_div (a := n) (Nat.pow_pos (n := q) (show 0 < 256 by decide)) lp
      have d2 := b_mod (a := n / 256 ^ q) (b := 256) (by decide)
      exact walkE (.v _ :: .v _ :: .v _ :: []) fun w => w p1 d1 d2
  have hr := rev_dn (σ := σ) (l := digs n s) (by rw [digs_len]; exact hs)
  cases little
  · exact walk (.c _ _ :: .v _ :: []) fun w => w hcomp hr
  · exact walk (.c _ _ :: []) fun w => w hcomp
end
end
section
section
variable {k : Nat} {σ : Sg} {iW iRows iK iS iP iM iR iO iF : Nat} {o : Bool} {D R : List Nat} {m1 m2 : Nat} {ks : List Str} {fs : List Fd} {rows : List DV}
theorem p_list_loc (h : σ[iO]? = some (.ba (toB R))) (hb : ∀ x ∈ R, x < 256) (hl : R.length ≤ 300) : primV σ .list [.loc iO] = some (.lst (R.map dn)) := by
  show ((bytesOf σ (.loc iO)).bind fun b => if b.size ≤ big then some (DV.lst (b.toList.map fun x => .int x.toNat)) else none) = _
  rw [bytes_loc h, Option.bind_some, toB_size, if_pos (Nat.le_trans hl (by decide))]
  have := nat8_toB hb
  unfold nat8 at this
  rw [← this, List.map_map, this]
  rfl
theorem len_loc (h : σ[iRows]? = some (.list rows)) (hl : rows.length ≤ 1000) : primV σ .len [.loc iRows] = some (dn rows.length) :=
  len_items rfl rfl (items_loc h) (Nat.le_trans hl (by decide))
theorem sl_from {d : DV} {l : List DV} (h : items σ d = some l) (hl : l.length ≤ 2000) {a : Nat} (ha : a ≤ l.length) : sliceV σ d (dn a) .none .none = some (.lst (l.drop a)) := by
  unfold sliceV
  rw [show partV (dn a) = some (some (a : Int)) from rfl, show partV .none = some none from rfl]
  simp only [Option.bind_some]
  rw [h, Option.elim_some, if_pos ⟨Nat.le_trans hl (by decide), by decide⟩, slPick_nn l (a := a) (e := l.length) (.inr rfl) (.inl ⟨rfl, rfl⟩) ha (Nat.le_refl _)]
  rw [show l.length - a = (l.drop a).length by simp, List.take_length]
theorem sl_to {d : DV} {l : List DV} (h : items σ d = some l) (hl : l.length ≤ 2000) {a : Nat} (ha : a ≤ l.length) : sliceV σ d .none (dn a) .none = some (.lst (l.take a)) := by
  unfold sliceV
  rw [show partV (dn a) = some (some (a : Int)) from rfl, show partV .none = some none from rfl]
  simp only [Option.bind_some]
  rw [h, Option.elim_some, if_pos ⟨Nat.le_trans hl (by decide), by decide⟩, slPick_nn l (a := 0) (e := a) (.inl ⟨rfl, rfl⟩) (.inr rfl) (Nat.zero_le _) ha]
  simp
theorem sl_both {d : DV} {l : List DV} (h : items σ d = some l) (hl : l.length ≤ 2000) {a e : Nat} (ha : a ≤ e) (he : e ≤ l.length) : sliceV σ d (dn a) (dn e) .none = some (.lst ((l.drop a).take (e - a))) := by
  unfold sliceV
  rw [show partV (dn a) = some (some (a : Int)) from rfl, show partV (dn e) = some (some (e : Int)) from rfl, show partV .none = some none from rfl]
  simp only [Option.bind_some]
  rw [h, Option.elim_some, if_pos ⟨Nat.le_trans hl (by decide), by decide⟩, slPick_nn l (a := a) (e := e) (.inr rfl) (.inr rfl) ha he]
theorem add_lst {x y : List DV} (h : x.length + y.length ≤ 2000) : binV .Add (.lst x) (.lst y) = some (.lst (x ++ y)) := by
  show (if Operator.Add = Operator.Add ∧ x.length + y.length ≤ big then some (DV.lst (x ++ y)) else none) = _
  rw [if_pos ⟨rfl, Nat.le_trans h (by decide)⟩]
theorem eq_lst (l : List Nat) : cmpV σ .Eq (.lst (l.map dn)) (.lst (l.map dn)) = some true := by
  show ((items σ (.lst (l.map dn))).bind fun a => (items σ (.lst (l.map dn))).bind fun b => (intsL a).bind fun as => (intsL b).bind fun bs => some (decide (as = bs))) = _
  show ((intsL (l.map dn)).bind fun as => (intsL (l.map dn)).bind fun bs => some (decide (as = bs))) = _
  rw [intsL_dn (fun x => x) l]
  simp
theorem ne_lst (l : List Nat) : cmpV σ .NotEq (.lst (l.map dn)) (.lst (l.map dn)) = some false := by
  show ((intsL (l.map dn)).bind fun as => (intsL (l.map dn)).bind fun bs => some (!decide (as = bs))) = _
  rw [intsL_dn (fun x => x) l]
  simp
theorem zeros {p : Nat} (h : p ≤ 3) : binV .Mult (.lst [dn 0]) (dn p) = some (.lst ((List.replicate p 0).map dn)) := by
  show (if Operator.Mult = Operator.Mult ∧ (0 : Int) ≤ (p : Nat) ∧ ((p : Nat) : Int) ≤ 1000 then some (DV.lst (List.replicate ((p : Nat) : Int).toNat (.int 0))) else none) = _
  rw [if_pos ⟨rfl, by lia, by lia⟩, List.map_replicate]
  rfl
theorem Mc.add (M : Mc σ iS iP iM iR iO iF o D m1 m2 R) (h : iRows ≠ iS ∧ iRows ≠ iP ∧ iRows ≠ iM ∧ iRows ≠ iR ∧ iRows ≠ iO) (rows' : List DV) : Mc (addR σ iRows rows') iS iP iM iR iO iF o D m1 m2 R :=
  ⟨by rw [addR, set_get h.1]; exact M.s, by rw [addR, set_get h.2.1]; exact M.p, by rw [addR, set_get h.2.2.1]; exact M.m,
    ⟨by rw [addR, set_get h.2.2.2.1]; exact M.g.d, by rw [addR, set_get h.2.2.2.2]; exact M.g.o, M.g.n, M.g.b⟩, M.ne, M.db, M.dl⟩
theorem Fls.put (F : Fls σ iF ks fs) (h : iO ≠ iF) (R' : List Nat) : Fls (setO σ iO R') iF ks fs := ⟨by rw [setO, set_get h]; exact F.d⟩
theorem ne_opt (v : Option Nat) : cmpV σ .NotEq (optV v) (optV v) = some false := by
  cases v with
  | none => rfl
  | some n => simp [optV]
end
end
section
noncomputable def leftR (R : List Nat) (r : Nat) (f : Fd) (o : Bool) : Option Nat → List Nat
  | none => R
  | some v => putR R r (enc (lit f o) v f.sz)
section
variable {k : Nat} {σ : Sg} {iW iRows iK iS iP iM iR iO iF : Nat} {o : Bool} {D R : List Nat} {m1 m2 : Nat} {ks : List Str} {fs : List Fd} {rows : List DV}
theorem setO_self (h : σ[iO]? = some (.ba (toB R))) : setO σ iO R = σ := by
  unfold setO
  obtain ⟨h1, h2⟩ := List.getElem?_eq_some_iff.mp h
  rw [← h2]; simp
theorem Wg.put (W : Wg σ iW iRows iK iF o rows) (h1 : iO ≠ iW) (h2 : iO ≠ iRows) (R' : List Nat) : Wg (setO σ iO R') iW iRows iK iF o rows :=
  ⟨by rw [setO, set_get h1]; exact W.w, by rw [setO, set_get h2]; exact W.r, W.n⟩
theorem lit_ev {H : Hd} {n : Nat} {ρ : Rho} {f : Fd} (hs : σ[iS]? = some (.dict sKs (sVs iP iF o))) (h6 : ρ.getD 6 none = some (.str f.ord)) (h0 : ρ.getD 0 none = some (.inst 338 iS)) :
    ev H (n + 4) (.and (.cmp .Eq (.v 6) (.k (.str "host"))) (.cmp .Eq (.attr (.v 0) "order") (.k (.str "little")))) ρ σ = some (.bool (lit f o), σ) := by
  have b : ¬ (("big" : Str) = "little") := by decide
  have b2 : ¬ (("big" : Str) = "host") := by decide
  simp only [ev_and, ev_cmp, ev_v, ev_k, ev_attr, h6, h0, Option.bind_some, c_eqs, asB_bool, instD_inst, dict_loc hs, lk_sorder]
  cases f <;> cases o <;> simp [Fd.ord, ordS, lit, isMt, b, b2]
theorem brk_eq : cmpV σ .Eq brk brk = some true := by kernel_rfl
set_option maxHeartbeats 4000000 in
theorem h_law_left (M : Mc σ iS iP iM iR iO iF o D m1 m2 R) (W : Wg σ iW iRows iK iF o rows) (F : Fls σ iF ks fs) (hne : iRows ≠ iS ∧ iRows ≠ iP ∧ iRows ≠ iM ∧ iRows ≠ iR ∧ iRows ≠ iO) (hno : iO ≠ iW ∧ iO ≠ iRows ∧ iO ≠ iF)
    {f : Fd} (ok : FdK f) {r : Nat} (q1 : m1 < 2 ^ 32) (q2 : m2 < 2 ^ 16) (hr : 4 * r + (f.sz + padl f.sz) ≤ 64) (e : Ex) (hl : rows.length ≤ 500) (he : e.dep ≤ 3) (ek : ExOk e) (h : lookF e.base ks fs = some f) :
    HH (k + 14) 532 [.inst 338 iS, .inst 176 iW, .inst 429 iR, dn r, exv e, dueV f (exval f D m1 m2 e)] σ = some (optV (exval f D m1 m2 e), setO (addR σ iRows (rows ++ exRows f o r e)) iO (leftR R r f o (exval f D m1 m2 e))) := by
  rw [h532]
  have l2 : (2 : Nat) ≤ big := tup_le (by decide)
  have l1 : (1 : Nat) ≤ big := tup_le (by decide)
  have hlk : lookD "octets" ["octets"] [DV.loc iO] = some (.loc iO) := rfl
  have hload := h_load ok.ok r e (k + 7 - e.dep) σ rows W F (by lia) (by lia) h
  rw [show k + 7 - e.dep + 6 + e.dep = k + 13 by lia] at hload
  have hlen := len_loc (σ := σ) W.r (by lia)
  have hlist := p_list_loc (σ := σ) M.g.o M.g.b (by rw [M.g.n]; decide)
  have M1 := M.add hne (rows ++ exRows f o r e)
  have W1 := W.add (rows ++ exRows f o r e)
  have F1 := F.add W.n.2 (rows ++ exRows f o r e)
  have hxl := exRows_len f o r e
  have hz := ok.ok.sz
  generalize hσ1 : addR σ iRows (rows ++ exRows f o r e) = σ1 at *
  have hsl := sl_from (σ := σ1) (items_loc W1.r) (by simp; lia) (a := rows.length) (by simp)
  rw [List.drop_left] at hsl
  cases hv : exval f D m1 m2 e with
  | none =>
    have hrun := h_run (run_ex_none (k := k + 8) M1 ok hr e hv) (by lia)
    have hval := h_value M1 F1 ok q1 q2 e (k + 7 - 2 * e.dep) (by lia) ek h
    rw [show k + 7 - 2 * e.dep + 6 + 2 * e.dep = k + 13 by lia, hv] at hval
    have hlist1 := p_list_loc (σ := σ1) M1.g.o M1.g.b (by rw [M1.g.n]; decide)
    have heq := eq_lst (σ := σ1) R
    have e0 : setO σ1 iO (leftR R r f o none) = σ1 := setO_self M1.g.o
    rw [e0]
    exact walk (.v _ :: .v _ :: .v _ :: .v _ :: .c _ _ :: .v _ :: .v _ :: .c _ _ :: .c _ _ :: .b _ :: .r :: .b _ :: .v _ :: .v _ :: .b _ :: []) fun w =>
      w (att_of W.w lk_rows) hlen (att_of M.g.d hlk) hlist hload (att_of W1.w lk_rows) hsl hrun hval (ne_opt none) brk_eq (att_of M1.g.d hlk) hlist1 heq
  | some v =>
    have hlt := exval_lt ok q1 q2 e v hv
    have hrun := h_run (run_ex (k := k + 8) M1 ok q1 q2 hr e v hv) (by lia)
    obtain ⟨M2, g2⟩ := M1.puts (enc_lt (lit f o) v f.sz) (enc_len _ _ _) hr
    have W2 := W1.put hno.1 hno.2.1 (putR R r (enc (lit f o) v f.sz))
    have F2 := F1.put hno.2.2 (putR R r (enc (lit f o) v f.sz))
    have e0 : setO σ1 iO (leftR R r f o (some v)) = setO σ1 iO (putR R r (enc (lit f o) v f.sz)) := rfl
    rw [e0]
    have hp3 : padl f.sz ≤ 3 := by unfold padl; lia
    have hoc := fun σ => h_law_octets (k := k + 12) (σ := σ) v f.sz (lit f o) (by lia)
    generalize hE : enc (lit f o) v f.sz = E at *
    have hEl : E.length = f.sz := by rw [← hE, enc_len]
    have hRe : putR R r E = R.take (4 * r) ++ (E ++ List.replicate (padl f.sz) 0) ++ R.drop (4 * r + (f.sz + padl f.sz)) := by rw [putR, hEl]
    have hnum : num (if lit f o then E.reverse else E) = v := by
      subst hE
      cases lit f o with
      | false => exact num_enc_false hlt
      | true => exact num_enc_false hlt
    have hEb : ∀ x ∈ (if lit f o then E.reverse else E), x < 256 := by
      subst hE
      intro x hx
      refine enc_lt (lit f o) v f.sz x ?_
      revert hx
      cases lit f o <;> simp
    have hEl2 : (if lit f o then E.reverse else E).length ≤ 300 := by
      split
      · rw [List.length_reverse]; lia
      · lia
    generalize hR' : putR R r E = R' at *
    generalize hσ2 : setO σ1 iO R' = σ2 at *
    have hval := h_value M2 F2 ok q1 q2 e (k + 7 - 2 * e.dep) (by lia) ek h
    rw [show k + 7 - 2 * e.dep + 6 + 2 * e.dep = k + 13 by lia, hv] at hval
    have hlist2 := p_list_loc (σ := σ2) M2.g.o M2.g.b (by rw [M2.g.n]; decide)
    have hnone : cmpV σ2 .NotEq (dn v) (dn v) = some false := by simp
    simp only [Option.getD_none, optV] at hrun hval
    have l4r := b_mul (lim_small (show 4 ≤ 100000 by decide)) (lim_small (show r ≤ 100000 by lia))
    have s1 := sl_to (σ := σ2) (d := .lst (R.map dn)) rfl (by simp [M.g.n]) (a := 4 * r) (by simp [M.g.n]; lia)
    have s2 := sl_from (σ := σ2) (d := .lst (R.map dn)) rfl (by simp [M.g.n]) (a := 4 * r + (f.sz + padl f.sz)) (by simp [M.g.n]; lia)
    have s3 := sl_both (σ := σ2) (d := .lst (R'.map dn)) rfl (by simp [M2.g.n]) (a := 4 * r) (e := 4 * r + f.sz) (by lia) (by simp [M2.g.n]; lia)
    rw [Nat.add_sub_cancel_left, ← List.map_drop, ← List.map_take, g2] at s3
    rw [← List.map_take] at s1
    rw [← List.map_drop] at s2
    have z0 := zeros hp3
    have a1 : binV .Add (.lst (E.map dn)) (.lst ((List.replicate (padl f.sz) 0).map dn)) = some (.lst ((E ++ List.replicate (padl f.sz) 0).map dn)) := by
      rw [add_lst (by simp; lia), List.map_append]
    have ln : primV σ2 .len [.lst ((E ++ List.replicate (padl f.sz) 0).map dn)] = some (dn (f.sz + padl f.sz)) := by
      rw [len_dn (by simp; lia)]; simp [hEl]
    have hAB : (R.take (4 * r)).length + (E ++ List.replicate (padl f.sz) 0).length ≤ 64 := by
      have e := congrArg List.length hRe
      rw [M2.g.n, List.length_append, List.length_append (as := R.take (4 * r))] at e
      exact e ▸ Nat.le_add_right _ _
    have a2 : binV .Add (.lst ((R.take (4 * r)).map dn)) (.lst ((E ++ List.replicate (padl f.sz) 0).map dn)) = some (.lst ((R.take (4 * r) ++ (E ++ List.replicate (padl f.sz) 0)).map dn)) := by
      rw [add_lst (by rw [List.length_map, List.length_map]; exact Nat.le_trans hAB (by decide)), ← List.map_append]
    have a3 : binV .Add (.lst ((R.take (4 * r) ++ (E ++ List.replicate (padl f.sz) 0)).map dn)) (.lst ((R.drop (4 * r + (f.sz + padl f.sz))).map dn)) = some (.lst (R'.map dn)) := by
      rw [add_lst (by rw [List.length_map, List.length_map, ← List.length_append, ← hRe, M2.g.n]; decide), ← List.map_append, ← hRe]
    have nn := ne_lst (σ := σ2) R'
    have rv := rev_dn (σ := σ2) (l := E) (by lia)
    have hmod := mod_pad f.sz
    have hlit : ∀ ρ : Rho, ρ.getD 6 none = some (.str f.ord) → ρ.getD 0 none = some (.inst 338 iS) → ev (HH (k + 13)) 63 (.and (.cmp .Eq (.v 6) (.k (.str "host"))) (.cmp .Eq (.attr (.v 0) "order") (.k (.str "little")))) ρ σ2 = some (.bool (lit f o), σ2) := fun ρ h6 h0 => lit_ev (n := 59) M2.s h6 h0
    have hite : ∀ ρ : Rho, ρ.getD 12 none = some (.bool (lit f o)) → ρ.getD 14 none = some (.lst (E.map dn)) → ev (HH (k + 13)) 63 (.ite (.v 12) (.sl (.v 14) none none (some (.neg (.k (dn 1))))) (.v 14)) ρ σ2 = some (.lst ((if lit f o then E.reverse else E).map dn), σ2) := fun ρ h12 h14 => by
      revert h12
      generalize lit f o = b
      intro h12
      cases b with
      | false => exact bnd (bnd h12 rfl) (bnd rfl ((if_neg Bool.false_ne_true).trans (bnd h14 rfl)))
      | true => exact bnd (bnd h12 rfl) (bnd rfl ((if_pos rfl).trans (bnd (bnd h14 rfl) (bnd rfl (bnd rfl (bnd rfl (bnd rv rfl)))))))
    have hsum : ∀ (S : List Nat) (ρ : Rho), S.length ≤ 300 → (∀ x ∈ S, x < 256) → ρ.getD 14 none = some (.lst (S.map dn)) → 15 < ρ.length → 16 < ρ.length → ev (HH (k + 13)) 62 (.comp .enum (.sl (.v 14) none none (some (.neg (.k (dn 1))))) [15, 16] (.bin false .Mult (.v 16) (.bin false .Pow (.k (dn 256)) (.v 15)))) ρ σ2 = some (.lst ((wl S).map dn), σ2) := fun S ρ hS hb h14 h15 h16 =>
      whole_comp (n := 58) S hS hb (by rw [ev_v, h14]; rfl) h15 h16 (by decide)
    have hws := wl_sum (σ := σ2) (if lit f o then E.reverse else E)
    rw [hnum] at hws
    exact walk (.v _ :: .v _ :: .v _ :: .v _ :: .c _ _ :: .v _ :: .v _ :: .c _ _ :: .c _ _ :: .b _ :: .r :: .c _ _ :: .c _ _ :: .v _ :: .v _ :: .v _ :: .r :: .v _ :: .v _ :: .v _ :: .v _ :: .v _ :: .v _ :: .v _ :: .v _ :: .v _ :: .v _ :: .b _ :: .v _ :: .v _ :: .v _ :: .v _ :: .v _ :: .v _ :: .c _ _ :: .c _ _ :: .v _ :: []) fun w =>
      w (att_of W.w lk_rows) hlen (att_of M.g.d hlk) hlist hload (att_of W1.w lk_rows) hsl hrun hval (ne_opt (some v)) (hlit _ rfl rfl) (hoc _) hmod z0 a1
        (att_of M2.g.d hlk) hlist2 l4r s1 a2 l4r ln b_add s2 a3 nn (att_of M2.g.d hlk) hlist2 l4r l4r b_add s3 (hite _ rfl rfl) (hsum _ _ hEl2 hEb rfl (Nat.le_of_ble_eq_true rfl) (Nat.le_of_ble_eq_true rfl)) hws
end
end
section
section
variable {k : Nat} {σ : Sg} {iP : Nat}
theorem ev_pop1 {H : Hd} {n : Nat} {ρ : Rho} {x y : DV} {t : List DV} (h0 : ρ.getD 0 none = some (.loc iP)) (hp : σ[iP]? = some (.list (x :: y :: t))) (hl : t.length ≤ 900) :
    ev H (n + 2) (.pop (.v 0) (.k (dn 1))) ρ σ = some (y, σ.set iP (.list (x :: t))) := by
  show (ev H (n + 1) (.v 0) ρ σ).bind _ = _
  rw [ev_v, h0]
  simp only [Option.bind_some, locD_loc, items_loc hp]
  rw [ev_k, Option.bind_some, intD_dn, Option.bind_some, listAt_of hp, Option.bind_some]
  rw [if_pos ⟨by decide, by decide, by simp only [List.length_cons]; exact Nat.le_trans (show _ ≤ 902 by lia) (by decide)⟩]
  rfl
theorem asg_it0 {H : Hd} {n : Nat} {ρ : Rho} {x d : DV} {t : List DV} (h0 : ρ.getD 0 none = some (.loc iP)) (hp : σ[iP]? = some (.list (x :: t))) :
    asgT H (n + 1) (.it (.v 0) (.k (dn 0))) d ρ σ = some (ρ, σ.set iP (.list (d :: t))) := by
  simp only [asgT]
  rw [ev_v, h0]
  simp only [Option.bind_some, ev_k, locD_loc, strD_dn, Option.elim_none, intD_dn]
  rw [listAt_of hp, Option.bind_some]
  rw [if_pos ⟨by decide, by decide, by simp only [List.length_cons]; lia⟩]
  rfl
noncomputable def penN (x : Nat) (t : List Nat) (m : Nat) : List Nat := x / m :: t.tail
noncomputable def drawN (x : Nat) (t : List Nat) (m : Nat) : Nat := (t.headD 0 + x) % m
theorem h_draw {x m : Nat} {t : List Nat} (hp : σ[iP]? = some (.list ((x :: t).map dn))) (h0 : 0 < m) (hm : m < lim) (hl : t.length ≤ 900) :
    HH (k + 1) 482 [.loc iP, dn m] σ = some (dn (drawN x t m), σ.set iP (.list ((penN x t m).map dn))) := by
  rw [h482]
  have hlt : iP < σ.length := (List.getElem?_eq_some_iff.mp hp).1
  have hlen : primV σ .len [.loc iP] = some (dn (t.length + 1)) := by
    have := len_items (σ := σ) (d := .loc iP) rfl rfl (items_loc hp) (by simp only [List.length_map, List.length_cons]; exact Nat.le_trans (show _ ≤ 901 by lia) (by decide))
    rwa [List.length_map, List.length_cons] at this
  have b0 : (0 : Nat) < big := by decide
  cases t with
  | nil =>
    have hn : subV σ (.loc iP) (dn 0) = some (dn x) := by rw [n_loc hp b0]; rfl
    have hs : ∀ (d : DV) (ρ : Rho), asgT (HH k) 63 (.it (.v 0) (.k (dn 0))) d (some (.loc iP) :: ρ) σ = some (some (.loc iP) :: ρ, σ.set iP (.list [d])) := fun d ρ => asg_it0 (n := 62) rfl hp
    exact walk (.v _ :: .b _ :: .v _ :: .v _ :: .v _ :: .v _ :: .v _ :: .c .none _ :: []) fun w => w hlen (cN c_gt (Nat.lt_irrefl 1)) hn b_add (b_mod h0) hn (b_div h0 hm) (hs _ _)
  | cons y t =>
    simp only [List.map_cons] at hp
    have hpop : ∀ ρ : Rho, ev (HH k) 62 (.pop (.v 0) (.k (dn 1))) (some (.loc iP) :: ρ) σ = some (dn y, σ.set iP (.list (dn x :: t.map dn))) := fun ρ => ev_pop1 (n := 60) rfl hp (by simp at hl; simp; lia)
    have hp1 : (σ.set iP (.list (dn x :: t.map dn)))[iP]? = some (.list (dn x :: t.map dn)) := List.getElem?_set_self hlt
    have hn : subV (σ.set iP (.list (dn x :: t.map dn))) (.loc iP) (dn 0) = some (dn x) := by rw [n_loc hp1 b0]; rfl
    have hs : ∀ (d : DV) (ρ : Rho), asgT (HH k) 63 (.it (.v 0) (.k (dn 0))) d (some (.loc iP) :: ρ) (σ.set iP (.list (dn x :: t.map dn))) = some (some (.loc iP) :: ρ, (σ.set iP (.list (dn x :: t.map dn))).set iP (.list (d :: t.map dn))) := fun d ρ => asg_it0 (n := 62) rfl hp1
    rw [show σ.set iP (.list ((penN x (y :: t) m).map dn)) = (σ.set iP (.list (dn x :: t.map dn))).set iP (.list (dn (x / m) :: t.map dn)) from (List.set_set ..).symm]
    exact walk (.v _ :: .b _ :: .c _ _ :: .v _ :: .v _ :: .v _ :: .v _ :: .v _ :: .c .none _ :: []) fun w => w hlen (cB c_gt (Nat.succ_lt_succ (Nat.succ_pos _))) (hpop _) hn b_add (b_mod h0) hn (b_div h0 hm) (hs _ _)
theorem draw_lt {x m : Nat} {t : List Nat} (h : 0 < m) : drawN x t m < m := Nat.mod_lt _ h
end
end
section
noncomputable def Fr (l : List Nat) (σ σ' : Sg) : Prop := σ.length ≤ σ'.length ∧ ∀ j, j < σ.length → j ∉ l → σ'[j]? = σ[j]?
theorem Fr.refl {l : List Nat} {σ : Sg} : Fr l σ σ := ⟨Nat.le_refl _, fun _ _ _ => rfl⟩
theorem Fr.trans {l : List Nat} {a b c : Sg} (x : Fr l a b) (y : Fr l b c) : Fr l a c :=
  ⟨Nat.le_trans x.1 y.1, fun j hj hl => (y.2 j (Nat.lt_of_lt_of_le hj x.1) hl).trans (x.2 j hj hl)⟩
theorem Fr.mono {l m : List Nat} {a b : Sg} (x : Fr l a b) (h : ∀ j ∈ l, j ∈ m) : Fr m a b := ⟨x.1, fun j hj hm => x.2 j hj fun z => hm (h j z)⟩
theorem Fr.set {i : Nat} {σ : Sg} {a : AO} : Fr [i] σ (σ.set i a) := ⟨by simp, fun j _ hj => set_get fun e => hj (by simp [e])⟩
theorem Fr.app {l : List Nat} {σ m : Sg} : Fr l σ (σ ++ m) := ⟨by simp, fun j hj _ => List.getElem?_append_left hj⟩
theorem Fr.get {l : List Nat} {σ σ' : Sg} {j : Nat} {a : AO} (x : Fr l σ σ') (h : σ[j]? = some a) (hj : j ∉ l) : σ'[j]? = some a :=
  (x.2 j (List.getElem?_eq_some_iff.mp h).1 hj).trans h
noncomputable def Pen (σ : Sg) (iP : Nat) : Prop := ∃ x t, σ[iP]? = some (.list ((x :: t).map dn)) ∧ t.length ≤ 900
theorem Pen.lt {σ : Sg} {iP : Nat} (p : Pen σ iP) : iP < σ.length := by
  obtain ⟨x, t, h, _⟩ := p
  exact (List.getElem?_eq_some_iff.mp h).1
theorem Pen.fr {l : List Nat} {σ σ' : Sg} {iP : Nat} (p : Pen σ iP) (x : Fr l σ σ') (h : iP ∉ l) : Pen σ' iP := by
  obtain ⟨y, t, e, hl⟩ := p
  exact ⟨y, t, x.get e h, hl⟩
structure Drawn (σ : Sg) (iP m c : Nat) (σ' : Sg) : Prop where
  l : c < m
  e : ∀ k, HH (k + 1) 482 [.loc iP, dn m] σ = some (dn c, σ')
  p : Pen σ' iP
  f : Fr [iP] σ σ'
theorem draw {σ : Sg} {iP m : Nat} (p : Pen σ iP) (h0 : 0 < m) (hm : m < lim) : ∃ c σ', Drawn σ iP m c σ' := by
  obtain ⟨x, t, hp, hl⟩ := p
  have hlt : iP < σ.length := (List.getElem?_eq_some_iff.mp hp).1
  exact ⟨drawN x t m, _, draw_lt h0, fun k => h_draw hp h0 hm hl, ⟨x / m, t.tail, List.getElem?_set_self hlt, by simp; lia⟩, Fr.set⟩
theorem putD_new {x : Str} {d : DV} {ks : List Str} {l : List DV} (h : x ∉ ks) : putD x d ks l = (ks ++ [x], l ++ [d]) := by simp [putD, h]
section
variable {k : Nat} {σ : Sg} {iP iF : Nat}
theorem asg_key {H : Hd} {n : Nat} {ρ : Rho} {o ie : IE} {i : Nat} {x : Str} {d : DV} {ks : List Str} {l : List DV} (h1 : ev H n o ρ σ = some (.loc i, σ)) (h2 : ev H n ie ρ σ = some (.str x, σ)) (hd : σ[i]? = some (.dict ks l)) (hl : ks.length ≤ 100) :
    asgT H n (.it o ie) d ρ σ = some (ρ, σ.set i (.dict (putD x d ks l).1 (putD x d ks l).2)) := by
  simp only [asgT]
  rw [h1]
  simp only [Option.bind_some, h2, locD_loc, strD_str, Option.elim_some, dict_loc hd]
  rw [if_pos hl]
noncomputable def fN : Nat → Str
  | 0 => "f0" | 1 => "f1" | 2 => "f2" | 3 => "f3" | _ => "f4"
theorem fN_str {q : Nat} (hq : q < 5) : primV σ .str [dn q] = some (.str (Str.ofString (toString (q : Int)))) := if_pos (⟨by lia, by lia⟩ : (0 : Int) ≤ (q : Nat) ∧ ((q : Nat) : Int) < 10)
theorem fN_add {q : Nat} (hq : q < 5) : binV .Add (.str "f") (.str (Str.ofString (toString (q : Int)))) = some (.str (fN q)) := by
  rcases (show q = 0 ∨ q = 1 ∨ q = 2 ∨ q = 3 ∨ q = 4 by lia) with rfl | rfl | rfl | rfl | rfl <;> rfl
theorem fN_ev {H : Hd} {n q v : Nat} {ρ : Rho} (hq : q < 5) (h : ρ.getD v none = some (dn q)) : ev H (n + 4) (.bin false .Add (.k (.str "f")) (.prim false .str [(.v v)])) ρ σ = some (.str (fN q), σ) := by
  simp only [ev_bin, ev_k, ev_prim, evL_cons, evL_nil, ev_v, h, Option.bind_some, fN_str hq, fin_false, fN_add hq]
structure FldS (σ : Sg) (iP iF : Nat) (ks : List Str) (fs : List Fd) : Prop where
  p : Pen σ iP
  d : σ[iF]? = some (.dict ks (fs.map fdv))
  n : iP ≠ iF
  l : ks.length ≤ 20
theorem fld_add {x : Str} {f : Fd} {ks : List Str} {fs : List Fd} (S : FldS σ iP iF ks fs) (hx : x ∉ ks) (hl : ks.length ≤ 19) :
    ∃ σ', (∀ (H : Hd) (n : Nat) (ρ : Rho) (ie : IE), ρ.getD 2 none = some (.loc iF) → ev H (n + 1) ie ρ σ = some (.str x, σ) → asgT H (n + 1) (.it (.v 2) ie) (fdv f) ρ σ = some (ρ, σ')) ∧ FldS σ' iP iF (ks ++ [x]) (fs ++ [f]) ∧ Fr [iP, iF] σ σ' := by
  have hlt : iF < σ.length := (List.getElem?_eq_some_iff.mp S.d).1
  refine ⟨σ.set iF (.dict (ks ++ [x]) (fs.map fdv ++ [fdv f])), fun H n ρ ie h1 h2 => ?_, ⟨S.p.fr (l := [iF]) Fr.set (by simpa using S.n), ?_, S.n, by simp; lia⟩, Fr.set.mono (by simp)⟩
  · have e := asg_key (d := fdv f) (H := H) (n := n + 1) (o := .v 2) (by rw [ev_v, h1]; rfl) h2 S.d (by have := S.l; lia)
    rw [putD_new hx] at e
    exact e
  · rw [List.getElem?_set_self hlt]; simp
noncomputable def fldBody : List IS := [
    .asg (.nm 6) (.bin false .Add (.k (dn 1)) (.call (.g (.ref 482)) [(.v 1), (.k (dn 17))])),
    .asg (.it (.v 2) (.bin false .Add (.k (.str "f")) (.prim false .str [(.v 5)]))) (.tup [(.k (.str "payload")), (.k (.str "integer")), (.v 6), (.k (.str "big")), (.tup [(.k (.str "th")), (.k (.str "network")), (.v 4)])]),
    .asg (.nm 4) (.bin false .Add (.v 4) (.v 6))]
structure FldT (σ : Sg) (iP iF q a : Nat) (ks : List Str) (fs : List Fd) (c : Nat) (σ' : Sg) : Prop where
  lo : 1 ≤ c
  hi : c ≤ 17
  e : ∀ (k : Nat) (d0 d3 z5 z6 : Option DV), (setAll [d0, some (.loc iP), some (.loc iF), d3, some (dn a), z5, z6, none, none] [5] [dn q]).bind (fun ρ'' => exL (ex (HH (k + 1)) 63) fldBody ρ'' σ) =
      some (.next, [d0, some (.loc iP), some (.loc iF), d3, some (dn (a + c)), some (dn q), some (dn c), none, none], σ')
  s : FldS σ' iP iF (ks ++ [fN q]) (fs ++ [.pay a c])
  f : Fr [iP, iF] σ σ'
theorem fld_turn {ks : List Str} {fs : List Fd} (S : FldS σ iP iF ks fs) {q a : Nat} (hq : q < 5) (hx : fN q ∉ ks) (hl : ks.length ≤ 19) :
    ∃ c σ', FldT σ iP iF q a ks fs c σ' := by
  obtain ⟨c, σ1, hc, e, p1, f1⟩ := draw (m := 17) S.p (by decide) (lim_small (by decide))
  have S1 : FldS σ1 iP iF ks fs := ⟨p1, f1.get S.d (by simp; exact Ne.symm S.n), S.n, S.l⟩
  obtain ⟨σ2, e2, S2, f2⟩ := fld_add (f := .pay a (1 + c)) S1 hx hl
  refine ⟨1 + c, σ2, by lia, by lia, fun k d0 d3 z5 z6 => ?_, S2, (f1.mono (by simp)).trans f2⟩
  have e2' : asgT (HH (k + 1)) 62 (.it (.v 2) (.bin false .Add (.k (.str "f")) (.prim false .str [(.v 5)]))) (.tup [.str "payload", .str "integer", dn (1 + c), .str "big", .tup [.str "th", .str "network", dn a]]) [d0, some (.loc iP), some (.loc iF), d3, some (dn a), some (dn q), some (dn (1 + c)), none, none] σ1 = _ := e2 (HH (k + 1)) 61 _ _ rfl (fN_ev (n := 58) (v := 5) hq rfl)
  show exL (ex (HH (k + 1)) 63) fldBody [d0, some (.loc iP), some (.loc iF), d3, some (dn a), some (dn q), z6, none, none] σ = _
  exact walkL (.c _ _ :: .v _ :: .c .none _ :: .v _ :: []) fun w => w (e _) b_add e2' b_add
end
end
section
noncomputable def fKs : List Str := ["mark", "type", "f0", "f1", "f2", "f3", "f4", "all", "end"]
noncomputable def fFs (b c0 c1 c2 c3 c4 g n : Nat) : List Fd := [.mt "mark" 32 "mark", .mt "integer" 16 "iiftype", .pay b c0, .pay (b + c0) c1, .pay (b + c0 + c1) c2, .pay (b + c0 + c1 + c2) c3, .pay (b + c0 + c1 + c2 + c3) c4,
  .pay b (c0 + c1 + c2 + c3 + c4), .pay (8 * n - 4) g]
section
variable {k : Nat} {σ : Sg} {iP iF : Nat}
structure LFs (D : List Nat) (σ : Sg) (iP b c0 c1 c2 c3 c4 g : Nat) (σ' : Sg) : Prop where
  a0 : 1 ≤ c0 ∧ c0 ≤ 17
  a1 : 1 ≤ c1 ∧ c1 ≤ 17
  a2 : 1 ≤ c2 ∧ c2 ≤ 17
  a3 : 1 ≤ c3 ∧ c3 ≤ 17
  a4 : 1 ≤ c4 ∧ c4 ≤ 17
  ag : 2 ≤ g ∧ g ≤ 7
  e : ∀ k, HH (k + 2) 496 [.lst (D.map dn), .loc iP] σ = some (.loc σ.length, σ')
  p : Pen σ' iP
  F : Fls σ' σ.length fKs (fFs b c0 c1 c2 c3 c4 g D.length)
  f : Fr [iP] σ σ'
theorem h_law_fields {D : List Nat} (p : Pen σ iP) (hD : 12 ≤ D.length) (hD2 : D.length ≤ 300) : ∃ b c0 c1 c2 c3 c4 g σ', LFs D σ iP b c0 c1 c2 c3 c4 g σ' := by
  refine byG fun G kk => ?_
  have pl := p.lt
  have hne : iP ≠ σ.length := by lia
  generalize hσ0 : σ ++ [.dict ["mark", "type"] ([Fd.mt "mark" 32 "mark", .mt "integer" 16 "iiftype"].map fdv)] = σ0 at *
  have f0 : Fr [iP] σ σ0 := by subst hσ0; exact Fr.app
  have d0 : σ0[σ.length]? = some (.dict ["mark", "type"] ([Fd.mt "mark" 32 "mark", .mt "integer" 16 "iiftype"].map fdv)) := by subst hσ0; simp
  have p0 : Pen σ0 iP := p.fr (l := []) (by subst hσ0; exact Fr.app) (by simp)
  obtain ⟨b, σ1, hb, e1, p1, f1⟩ := draw (m := 40) p0 (by decide) (lim_small (by decide))
  have S1 : FldS σ1 iP σ.length ["mark", "type"] [.mt "mark" 32 "mark", .mt "integer" 16 "iiftype"] := ⟨p1, f1.get d0 (by simp; exact Ne.symm hne), hne, by decide⟩
  obtain ⟨c0, s2, a0, b0, e2, S2, f2⟩ := fld_turn S1 (q := 0) (a := b) (by decide) (by decide) (by decide)
  obtain ⟨c1, s3, a1, b1, e3, S3, f3⟩ := fld_turn S2 (q := 1) (a := b + c0) (by decide) (by decide) (by decide)
  obtain ⟨c2, s4, a2, b2, e4, S4, f4⟩ := fld_turn S3 (q := 2) (a := b + c0 + c1) (by decide) (by decide) (by decide)
  obtain ⟨c3, s5, a3, b3, e5, S5, f5⟩ := fld_turn S4 (q := 3) (a := b + c0 + c1 + c2) (by decide) (by decide) (by decide)
  obtain ⟨c4, s6, a4, b4, e6, S6, f6⟩ := fld_turn S5 (q := 4) (a := b + c0 + c1 + c2 + c3) (by decide) (by decide) (by decide)
  obtain ⟨s7, e7, S7, f7⟩ := fld_add (x := "all") (f := .pay b (c0 + c1 + c2 + c3 + c4)) S6 (by decide) (by decide)
  obtain ⟨g, s8, hg, e8, p8, f8⟩ := draw (m := 6) S7.p (by decide) (lim_small (by decide))
  have S8 : FldS s8 iP σ.length _ _ := ⟨p8, f8.get S7.d (by simp; exact Ne.symm hne), hne, S7.l⟩
  obtain ⟨s9, e9, S9, f9⟩ := fld_add (x := "end") (f := .pay (8 * D.length - 4) (2 + g)) S8 (by decide) (by decide)
  refine kk ⟨b, c0, c1, c2, c3, c4, 2 + g, s9, ⟨a0, b0⟩, ⟨a1, b1⟩, ⟨a2, b2⟩, ⟨a3, b3⟩, ⟨a4, b4⟩, ⟨by lia, by lia⟩, fun k => ?_, S9.p, ⟨S9.d⟩, ?_⟩
  · rw [h496]
    have hloop := for_of (H := HH (k + 1)) (n := 63) (vs := [5]) (ik := .range) (src := .k (dn 5)) (b := fldBody) (ρ := [some (.lst (D.map dn)), some (.loc iP), some (.loc σ.length), some (dn b), some (dn b), none, none, none, none]) (σ := σ1) (σ₁ := σ1) (d := dn 5)
      (its := [[dn 0], [dn 1], [dn 2], [dn 3], [dn 4]]) (o := some (.next, [some (.lst (D.map dn)), some (.loc iP), some (.loc σ.length), some (dn b), some (dn (b + c0 + c1 + c2 + c3 + c4)), some (dn 4), some (dn c4), none, none], s6)) rfl rfl (by decide)
      ((forL_step (e2 k _ _ _ _)).trans ((forL_step (e3 k _ _ _ _)).trans ((forL_step (e4 k _ _ _ _)).trans ((forL_step (e5 k _ _ _ _)).trans ((forL_step (e6 k _ _ _ _)).trans rfl)))))
    have e7' := e7 (HH (k + 1)) 62 [some (.lst (D.map dn)), some (.loc iP), some (.loc σ.length), some (dn b), some (dn (b + c0 + c1 + c2 + c3 + c4)), some (dn 4), some (dn c4), none, none] (.k (.str "all")) rfl rfl
    have e9' := e9 (HH (k + 1)) 62 [some (.lst (D.map dn)), some (.loc iP), some (.loc σ.length), some (dn b), some (dn (b + c0 + c1 + c2 + c3 + c4)), some (dn 4), some (dn c4), none, none] (.k (.str "end")) rfl rfl
    have hs : binV .Sub (dn (b + c0 + c1 + c2 + c3 + c4)) (dn b) = some (dn (c0 + c1 + c2 + c3 + c4)) := by rw [b_sub (by lia)]; congr 2; lia
    have hlen := len_dn (σ := s8) hD2
    have m8 := b_mul (lim_small (show 8 ≤ 100000 by decide)) (lim_small (show D.length ≤ 100000 by lia))
    have hs2 : binV .Sub (dn (8 * D.length)) (dn 4) = some (dn (8 * D.length - 4)) := b_sub (by lia)
    have hd : ∀ ρ, ev (HH (k + 1)) 63 (.dct true ["mark", "type"] [(.tup [(.k (.str "meta")), (.k (.str "mark")), (.k (dn 32)), (.k (.str "host")), (.k (.str "mark"))]), (.tup [(.k (.str "meta")), (.k (.str "integer")), (.k (dn 16)), (.k (.str "host")), (.k (.str "iiftype"))])]) ρ σ = some (.loc σ.length, σ0) := by subst hσ0; intro ρ; kernel_rfl
    exact walk (.c _ _ :: .c _ _ :: .s _ _ _ :: .v _ :: .c .none _ :: .c _ _ :: .v _ :: .v _ :: .v _ :: .v _ :: .c .none _ :: []) fun w => w (hd _) (e1 _) hloop hs e7' (e8 _) b_add hlen m8 hs2 e9'
  · have ft := (f2.trans (f3.trans (f4.trans (f5.trans (f6.trans f7))))).trans ((f8.mono (by simp)).trans f9)
    refine ⟨Nat.le_trans f0.1 (Nat.le_trans f1.1 ft.1), fun j hj hl => ?_⟩
    rw [ft.2 j (Nat.lt_of_lt_of_le hj (Nat.le_trans f0.1 f1.1)) (by simp at hl ⊢; lia), f1.2 j (Nat.lt_of_lt_of_le hj f0.1) hl, f0.2 j hj hl]
end
end
section
section
variable {k : Nat} {σ : Sg} {iP iF : Nat}
noncomputable def nineN : List Str := ["f0", "f1", "f2", "f3", "f4", "all", "mark", "type", "end"]
theorem nine_sub {c : Nat} (h : c < 9) : ∃ x ∈ nineN, subV σ (.lst [.str "f0", .str "f1", .str "f2", .str "f3", .str "f4", .str "all", .str "mark", .str "type", .str "end"]) (dn c) = some (.str x) := by
  refine ⟨nineN[c]'h, List.getElem_mem h, ?_⟩
  rw [n_lst (Nat.lt_of_lt_of_le h (show 9 ≤ big by decide))]
  exact (List.getElem?_map (f := DV.str) (l := nineN) (i := c)).trans (congrArg (Option.map DV.str) (List.getElem?_eq_getElem h))
theorem tag_sub {c : Nat} (h : c < 5) : ∃ t : Tag, subV σ (.lst [.str "mask", .str "or", .str "xor", .str "shl", .str "shr"]) (dn c) = some (.str (tagS t)) := by
  rw [n_lst (Nat.lt_of_lt_of_le h (show 5 ≤ big by decide))]
  rcases (show c = 0 ∨ c = 1 ∨ c = 2 ∨ c = 3 ∨ c = 4 by lia) with rfl | rfl | rfl | rfl | rfl
  · exact ⟨.mask, rfl⟩
  · exact ⟨.or, rfl⟩
  · exact ⟨.xor, rfl⟩
  · exact ⟨.shl, rfl⟩
  · exact ⟨.shr, rfl⟩
theorem is_shift (t : Tag) : cmpV σ .In (.str (tagS t)) (.lst [.str "shl", .str "shr"]) = some (decide (t = .shl ∨ t = .shr)) := by
  rw [c_inlst]
  cases t <;> rfl
noncomputable def wkBody : List IS := [
    .asg (.nm 3) (.sub (.lst false [(.k (.str "mask")), (.k (.str "or")), (.k (.str "xor")), (.k (.str "shl")), (.k (.str "shr"))]) (.call (.g (.ref 482)) [(.v 0), (.k (dn 5))])),
    .asgs true [(.nm 4), (.nm 5)] (.tup [(.call (.g (.ref 482)) [(.v 0), (.k (dn 41))]), (.call (.g (.ref 482)) [(.v 0), (.bin false .Pow (.k (dn 2)) (.k (dn 70)))])]),
    .asg (.nm 1) (.tup [(.v 3), (.v 1), (.ite (.cmp .In (.v 3) (.lst false [(.k (.str "shl")), (.k (.str "shr"))])) (.v 4) (.v 5))])]
structure WT (iP : Nat) (σ : Sg) (e : Ex) (t : Tag) (n : Nat) (σ' : Sg) : Prop where
  q : ((t = Tag.shl ∨ t = .shr) → n ≤ 100)
  h : ∀ (k q : Nat) (z2 z3 z4 z5 : Option DV), ∃ y4 y5, (setAll [some (.loc iP), some (exv e), z2, z3, z4, z5, none, none] [2] [dn q]).bind (fun ρ'' => exL (ex (HH (k + 1)) 63) wkBody ρ'' σ) =
      some (.next, [some (.loc iP), some (exv (.op t e n)), some (dn q), some (.str (tagS t)), y4, y5, none, none], σ')
  p : Pen σ' iP
  f : Fr [iP] σ σ'
theorem wk_turn (p : Pen σ iP) (e : Ex) : ∃ t n σ', WT iP σ e t n σ' := by
  obtain ⟨c1, σ1, h1, e1, p1, f1⟩ := draw (m := 5) p (by decide) (lim_small (by decide))
  obtain ⟨c2, σ2, h2, e2, p2, f2⟩ := draw (m := 41) p1 (by decide) (lim_small (by decide))
  obtain ⟨c3, σ3, h3, e3, p3, f3⟩ := draw (m := 2 ^ 70) p2 (Nat.two_pow_pos _) (lim_of (l := 9) (by decide) (by decide))
  obtain ⟨t, ht⟩ := tag_sub (σ := σ1) h1
  refine ⟨t, if t = .shl ∨ t = .shr then c2 else c3, σ3, fun z => by rw [if_pos z]; lia, fun k q z2 z3 z4 z5 => ⟨some (dn c2), some (dn c3), ?_⟩, p3, f1.trans (f2.trans f3)⟩
  have pw := b_pow (a := 2) (b := 70) (by decide) (Nat.le_trans (by decide) (show 100 ≤ big by decide))
  have hs := is_shift (σ := σ3) t
  by_cases hsh : t = .shl ∨ t = .shr
  · rw [decide_eq_true hsh] at hs
    rw [if_pos hsh]
    show exL (ex (HH (k + 1)) 63) wkBody [some (.loc iP), some (exv e), some (dn q), z3, z4, z5, none, none] σ = _
    exact walkL (.c _ _ :: .v _ :: .c _ _ :: .v _ :: .c _ _ :: .b _ :: []) fun w => w (e1 _) ht (e2 _) pw (e3 _) hs
  · rw [decide_eq_false hsh] at hs
    rw [if_neg hsh]
    show exL (ex (HH (k + 1)) 63) wkBody [some (.loc iP), some (exv e), some (dn q), z3, z4, z5, none, none] σ = _
    exact walkL (.c _ _ :: .v _ :: .c _ _ :: .v _ :: .c _ _ :: .b _ :: []) fun w => w (e1 _) ht (e2 _) pw (e3 _) hs
structure WL (iP m i : Nat) (e : Ex) (σ : Sg) (e' : Ex) (σ' : Sg) : Prop where
  d : e'.dep = e.dep + m
  b : e'.base = e.base
  x : ExOk e'
  p : Pen σ' iP
  f : Fr [iP] σ σ'
  h : ∀ (k : Nat) (z2 z3 z4 z5 : Option DV), ∃ y2 y3 y4 y5, forL (fun x ρ' s => (setAll ρ' [2] x).bind fun ρ'' => exL (ex (HH (k + 1)) 63) wkBody ρ'' s) ((List.range' i m).map fun (q : Nat) => [DV.int (q : Int)]) [some (.loc iP), some (exv e), z2, z3, z4, z5, none, none] σ =
      some (.next, [some (.loc iP), some (exv e'), y2, y3, y4, y5, none, none], σ')
theorem wk_loop : ∀ (m i : Nat) (e : Ex) (σ : Sg), Pen σ iP → ExOk e → ∃ e' σ', WL iP m i e σ e' σ'
  | 0, i, e, σ, p, ok => ⟨e, σ, rfl, rfl, ok, p, Fr.refl, fun k z2 z3 z4 z5 => ⟨z2, z3, z4, z5, rfl⟩⟩
  | m + 1, i, e, σ, p, ok => by
    obtain ⟨t, n, σ1, hn, h1, p1, f1⟩ := wk_turn p e
    obtain ⟨e', σ', a1, a2, a3, a4, a5, a6⟩ := wk_loop m (i + 1) (.op t e n) σ1 p1 ⟨hn, ok⟩
    refine ⟨e', σ', by rw [a1]; simp [Ex.dep]; lia, a2, a3, a4, f1.trans a5, fun k z2 z3 z4 z5 => ?_⟩
    obtain ⟨y4, y5, h⟩ := h1 k i z2 z3 z4 z5
    obtain ⟨w2, w3, w4, w5, h'⟩ := a6 k (some (dn i)) (some (.str (tagS t))) y4 y5
    refine ⟨w2, w3, w4, w5, ?_⟩
    rw [List.range'_succ, List.map_cons]
    exact (forL_step h).trans h'
theorem h_law_worked (p : Pen σ iP) : ∃ e σ', e.dep ≤ 3 ∧ e.base ∈ nineN ∧ ExOk e ∧ Pen σ' iP ∧ Fr [iP] σ σ' ∧ ∀ k, HH (k + 2) 503 [.loc iP] σ = some (exv e, σ') := by
  obtain ⟨c1, σ1, h1, e1, p1, f1⟩ := draw (m := 9) p (by decide) (lim_small (by decide))
  obtain ⟨x, hx, hs⟩ := nine_sub (σ := σ1) h1
  obtain ⟨c2, σ2, h2, e2, p2, f2⟩ := draw (m := 3) p1 (by decide) (lim_small (by decide))
  obtain ⟨e', σ', a1, a2, a3, a4, a5, a6⟩ := wk_loop (iP := iP) (1 + c2) 0 (.fld x) σ2 p2 trivial
  refine ⟨e', σ', by rw [a1]; simp [Ex.dep]; lia, by rw [a2]; exact hx, a3, a4, f1.trans (f2.trans a5), fun k => ?_⟩
  obtain ⟨w2, w3, w4, w5, h'⟩ := a6 k none none none none
  have hloop := for_of (H := HH (k + 1)) (n := 63) (vs := [2]) (ik := .range) (src := .bin false .Add (.k (dn 1)) (.call (.g (.ref 482)) [(.v 0), (.k (dn 3))])) (b := wkBody) (ρ := [some (.loc iP), some (exv (.fld x)), none, none, none, none, none, none]) (σ := σ1) (σ₁ := σ2) (d := dn (1 + c2))
    (its := (List.range' 0 (1 + c2)).map fun (q : Nat) => [DV.int (q : Int)]) (by exact walkE (.c _ _ :: .v _ :: []) fun w => w (e2 _) b_add)
    (by
      show (if (0 : Int) ≤ (1 + c2 : Nat) ∧ ((1 + c2 : Nat) : Int) ≤ big then _ else _) = _
      have hb : (240 : Nat) ≤ big := by decide
      rw [if_pos ⟨by lia, by lia⟩, Int.toNat_natCast, List.range_eq_range']) (by simp; exact Nat.le_trans (show 1 + c2 ≤ 240 by lia) (by decide)) h'
  rw [h503]
  exact walk (.c _ _ :: .v _ :: .s _ _ _ :: []) fun w => w (e1 _) hs hloop
end
end
section
theorem exL_next {f : IS → Rho → Sg → Out} {s : IS} {r : List IS} {ρ ρ' : Rho} {σ σ' : Sg} {o : Out} (h : f s ρ σ = some (.next, ρ', σ')) (h' : exL f r ρ' σ' = o) : exL f (s :: r) ρ σ = o := by
  rw [exO_cons, h]; exact h'
theorem runF_ret {H : Hd} {f : Fn} {args : List DV} {σ σ' : Sg} {d : DV} {ρ : Rho} (h0 : args.length + f.dflt.length = f.np) (h : exL (ex H 64) f.body ((args ++ f.dflt).map some ++ List.replicate f.nl none) σ = some (.ret d, ρ, σ')) : runF H f args σ = some (d, σ') := by
  unfold runF; rw [if_pos h0, h]; rfl
theorem runF_next {H : Hd} {f : Fn} {args : List DV} {σ σ' : Sg} {ρ : Rho} (h0 : args.length + f.dflt.length = f.np) (h : exL (ex H 64) f.body ((args ++ f.dflt).map some ++ List.replicate f.nl none) σ = some (.next, ρ, σ')) : runF H f args σ = some (.none, σ') := by
  unfold runF; rw [if_pos h0, h]; rfl
section
variable {k : Nat} {σ : Sg}
theorem get0 {a : AO} {m : Sg} : (σ ++ a :: m)[σ.length]? = some a := by simp
theorem set0 {a b : AO} {m : Sg} : (σ ++ a :: m).set σ.length b = σ ++ b :: m := by simp
theorem get1 {a b : AO} {m : Sg} : (σ ++ a :: b :: m)[σ.length + 1]? = some b := by simp
theorem set1 {a b c : AO} {m : Sg} : (σ ++ a :: b :: m).set (σ.length + 1) c = σ ++ a :: c :: m := by simp
theorem get2 {a b c : AO} {m : Sg} : (σ ++ a :: b :: c :: m)[σ.length + 2]? = some c := by simp
theorem set2 {a b c d : AO} {m : Sg} : (σ ++ a :: b :: c :: m).set (σ.length + 2) d = σ ++ a :: b :: d :: m := by simp
theorem at0 {H : Hd} {n v : Nat} {ρ : Rho} {C : Addr} {nm : Str} {e : IE} {d : DV} {ks ks' : List Str} {l l' : List DV} {m m' : Sg} (h1 : ρ.getD v none = some (.inst C σ.length)) (h2 : ev H (n + 1) e ρ (σ ++ .dict ks l :: m) = some (d, σ ++ .dict ks l :: m'))
    (hl : Nat.ble ks.length 100 = true) (hp : putD nm d ks l = (ks', l')) : ex H (n + 2) (.asg (.at (.v v) nm) e) ρ (σ ++ .dict ks l :: m) = some (.next, ρ, σ ++ .dict ks' l' :: m') := by
  rw [ex_asg, h2, Option.bind_some]
  simp only [asgT]
  rw [ev_v, h1]
  simp only [Option.bind_some, instD_inst, dict_loc get0]
  rw [if_pos (Nat.le_of_ble_eq_true hl), hp, set0]; rfl
theorem it0 {H : Hd} {n : Nat} {ρ : Rho} {o ie : IE} {x : Str} {d : DV} {ks ks' : List Str} {l l' : List DV} {m : Sg} (h1 : ev H n o ρ (σ ++ .dict ks l :: m) = some (.loc σ.length, σ ++ .dict ks l :: m)) (h2 : ev H n ie ρ (σ ++ .dict ks l :: m) = some (.str x, σ ++ .dict ks l :: m))
    (hl : Nat.ble ks.length 100 = true) (hp : putD x d ks l = (ks', l')) : asgT H n (.it o ie) d ρ (σ ++ .dict ks l :: m) = some (ρ, σ ++ .dict ks' l' :: m) := by
  rw [asg_key h1 h2 get0 (Nat.le_of_ble_eq_true hl), hp, set0]
set_option maxHeartbeats 2000000 in
theorem h_new_meta : HH (k + 1) 271 [] σ = some (.loc σ.length, σ ++ [.dict mKs (mVs 0 1)]) := by
  rw [h271]
  have turn : ∀ (x : Str) (ks : List Str) (l : List DV) (z1 : Option DV), Nat.ble ks.length 100 = true → (setAll [some (.loc σ.length), z1, none, none] [1] [.str x]).bind (fun ρ'' => exL (ex (HH k) 63) [.asg (.it (.v 0) (.v 1)) (.k (dn 0))] ρ'' (σ ++ [.dict ks l])) =
      some (.next, [some (.loc σ.length), some (.str x), none, none], σ ++ [.dict (putD x (dn 0) ks l).1 (putD x (dn 0) ks l).2]) := fun x ks l z1 hl => by
    have e := it0 (H := HH k) (n := 62) (ρ := [some (.loc σ.length), some (.str x), none, none]) (o := .v 0) (ie := .v 1) (σ := σ) (m := []) (d := dn 0) (x := x) (ks := ks) (l := l) (ks' := (putD x (dn 0) ks l).1) (l' := (putD x (dn 0) ks l).2) rfl rfl hl rfl
    show exL (ex (HH k) 63) [.asg (.it (.v 0) (.v 1)) (.k (dn 0))] [some (.loc σ.length), some (.str x), none, none] (σ ++ [.dict ks l]) = _
    exact walkL (.c .none _ :: []) fun w => w e
  have hloop := for_of (H := HH k) (n := 63) (vs := [1]) (ik := .seq) (src := .tup [(.k (.str "mark")), (.k (.str "priority")), (.k (.str "iif")), (.k (.str "oif")), (.k (.str "iifname")), (.k (.str "oifname")), (.k (.str "pkttype"))]) (b := [.asg (.it (.v 0) (.v 1)) (.k (dn 0))])
      (ρ := [some (.loc σ.length), none, none, none]) (σ := σ ++ [.dict [] []]) (σ₁ := σ ++ [.dict [] []]) (d := .tup [.str "mark", .str "priority", .str "iif", .str "oif", .str "iifname", .str "oifname", .str "pkttype"])
      (its := [[.str "mark"], [.str "priority"], [.str "iif"], [.str "oif"], [.str "iifname"], [.str "oifname"], [.str "pkttype"]])
      (o := some (.next, [some (.loc σ.length), some (.str "pkttype"), none, none], σ ++ [.dict ["mark", "priority", "iif", "oif", "iifname", "oifname", "pkttype"] [dn 0, dn 0, dn 0, dn 0, dn 0, dn 0, dn 0]]))
      (by kernel_rfl) rfl (by decide)
      ((forL_step (turn "mark" _ _ _ rfl)).trans ((forL_step (turn "priority" _ _ _ rfl)).trans ((forL_step (turn "iif" _ _ _ rfl)).trans ((forL_step (turn "oif" _ _ _ rfl)).trans ((forL_step (turn "iifname" _ _ _ rfl)).trans ((forL_step (turn "oifname" _ _ _ rfl)).trans ((forL_step (turn "pkttype" _ _ _ rfl)).trans (by kernel_rfl))))))))
  have hd : ex (HH k) 64 (.asg (.nm 0) (.dct true [] [])) [none, none, none, none] σ = some (.next, [some (.loc σ.length), none, none, none], σ ++ [.dict [] []]) := rfl
  have s1 : ex (HH k) 64 (.asg (.it (.v 0) (.k (.str "iiftype"))) (.k (dn 1))) [some (.loc σ.length), some (.str "pkttype"), none, none] (σ ++ [.dict ["mark", "priority", "iif", "oif", "iifname", "oifname", "pkttype"] [dn 0, dn 0, dn 0, dn 0, dn 0, dn 0, dn 0]]) =
      some (.next, [some (.loc σ.length), some (.str "pkttype"), none, none], σ ++ [.dict ["mark", "priority", "iif", "oif", "iifname", "oifname", "pkttype", "iiftype"] [dn 0, dn 0, dn 0, dn 0, dn 0, dn 0, dn 0, dn 1]]) := by
    rw [ex_asg, ev_k, Option.bind_some, it0 rfl rfl rfl rfl]; kernel_rfl
  have s2 : ex (HH k) 64 (.asg (.it (.v 0) (.k (.str "oiftype"))) (.k (dn 1))) [some (.loc σ.length), some (.str "pkttype"), none, none] (σ ++ [.dict ["mark", "priority", "iif", "oif", "iifname", "oifname", "pkttype", "iiftype"] [dn 0, dn 0, dn 0, dn 0, dn 0, dn 0, dn 0, dn 1]]) =
      some (.next, [some (.loc σ.length), some (.str "pkttype"), none, none], σ ++ [.dict mKs (mVs 0 1)]) := by
    rw [ex_asg, ev_k, Option.bind_some, it0 rfl rfl rfl rfl]; kernel_rfl
  exact runF_ret rfl (exL_next hd (exL_next hloop (exL_next s1 (exL_next s2 rfl))))
end
end
section
section
variable {k : Nat} {σ : Sg}
theorem mkF_of {C : Addr} {F : Fun} {args : List DV} {σ' : Sg} (h : F (.inst C σ.length :: args) (σ ++ [.dict [] []]) = some (.none, σ')) : mkF C F args σ = some (.inst C σ.length, σ') := by
  unfold mkF; rw [h]; rfl
theorem p_ba_bytes {l : List Nat} (h : l.length ≤ 1000) : primV σ .bytearray [.bytes (toB l)] = some (.ba (toB l)) := by
  show (if (toB l).size ≤ big then some (DV.ba (toB l)) else none) = _
  rw [if_pos (by rw [toB_size]; exact Nat.le_trans h (by decide))]
theorem mk_packet {D : List Nat} (hD : D.length ≤ 300) : HH (k + 2) 288 [.bytes (toB D), dn 2048, .bytes #[]] σ = some (.inst 288 σ.length, σ ++ [.dict pKs (pVs D (σ.length + 1)), .dict mKs (mVs 0 1)]) := by
  rw [h288]
  refine mkF_of (runF_next (ρ := [some (.inst 288 σ.length), some (.bytes (toB D)), some (dn 2048), some (.bytes #[]), none, none]) rfl ?_)
  have d1 : ∀ m, ev (HH (k + 1)) 63 (.prim false .bytearray [.v 1]) [some (.inst 288 σ.length), some (.bytes (toB D)), some (dn 2048), some (.bytes #[]), none, none] (σ ++ m) = some (.ba (toB D), σ ++ m) := fun m => by
    exact walkE (.v _ :: []) fun w => w (p_ba_bytes (show D.length ≤ 1000 by lia))
  have d2 : ∀ ks l, ev (HH (k + 1)) 63 (.call (.g (.ref 271)) []) [some (.inst 288 σ.length), some (.bytes (toB D)), some (dn 2048), some (.bytes #[]), none, none] (σ ++ .dict ks l :: []) = some (.loc (σ.length + 1), σ ++ .dict ks l :: [.dict mKs (mVs 0 1)]) := fun ks l => by
    have := h_new_meta (k := k) (σ := σ ++ [.dict ks l])
    simp at this
    exact walkE (.c _ _ :: []) fun w => w this
  refine exL_next (at0 rfl (d1 _) rfl rfl) ?_
  refine exL_next (at0 rfl rfl rfl rfl) ?_
  refine exL_next (at0 rfl rfl rfl rfl) ?_
  refine exL_next (at0 rfl rfl rfl rfl) ?_
  refine exL_next (at0 rfl rfl rfl rfl) ?_
  refine exL_next (at0 rfl rfl rfl rfl) ?_
  refine exL_next (at0 rfl (d2 _ _) rfl rfl) ?_
  kernel_rfl
theorem mk_scene {iP iF : Nat} : HH (k + 1) 338 [.inst 288 iP, .loc iF] σ = some (.inst 338 σ.length, σ ++ [.dict sKs [.inst 288 iP, dn 0, .str "input", .none, dn 1, dn 0, .none, .dct [] [], .dct [] [], .loc iF, .dct [] [], .dct [] [], .dct [] [], .dct [] [], .str "little", .lst [], .lst [], .none, .dct [] []]]) := by
  rw [h338]
  refine mkF_of (runF_next (ρ := [some (.inst 338 σ.length), some (.inst 288 iP), some (.loc iF), some (dn 0), some (.str "input"), none, none]) rfl ?_)
  iterate 19 refine exL_next (at0 rfl rfl rfl rfl) ?_
  kernel_rfl
theorem mk_rowing {iF : Nat} {o : Bool} : HH (k + 1) 176 [.loc iF, .str "inet", .str (ordS o), .str "p"] σ = some (.inst 176 σ.length, σ ++ [.dict wKs [.loc iF, .str "inet", .str (ordS o), .str "p", .loc (σ.length + 1), .dct [] [], .loc (σ.length + 2), .dct [] [], .dct [] []], .list [], .dict [] []]) := by
  rw [h176]
  refine mkF_of (runF_next (ρ := [some (.inst 176 σ.length), some (.loc iF), some (.str "inet"), some (.str (ordS o)), some (.str "p"), none, none]) rfl ?_)
  have d1 : ∀ (ρ : Rho) ks l, ev (HH k) 63 (.lst true []) ρ (σ ++ .dict ks l :: []) = some (.loc (σ.length + 1), σ ++ .dict ks l :: [.list []]) := fun ρ ks l => by
    show some (DV.loc (σ ++ [AO.dict ks l]).length, σ ++ [AO.dict ks l] ++ [AO.list []]) = _
    simp
  have d2 : ∀ (ρ : Rho) ks l a, ev (HH k) 63 (.dct true [] []) ρ (σ ++ .dict ks l :: [a]) = some (.loc (σ.length + 2), σ ++ .dict ks l :: [a, .dict [] []]) := fun ρ ks l a => by
    show some (DV.loc (σ ++ [AO.dict ks l, a]).length, σ ++ [AO.dict ks l, a] ++ [AO.dict [] []]) = _
    simp
  iterate 4 refine exL_next (at0 rfl rfl rfl rfl) ?_
  refine exL_next (at0 rfl (d1 _ _ _) rfl rfl) ?_
  refine exL_next (at0 rfl rfl rfl rfl) ?_
  refine exL_next (at0 rfl (d2 _ _ _ _) rfl rfl) ?_
  iterate 2 refine exL_next (at0 rfl rfl rfl rfl) ?_
  kernel_rfl
theorem mk_regs : HH (k + 1) 429 [] σ = some (.inst 429 σ.length, σ ++ [.dict ["octets"] [.ba (Array.replicate 64 0)]]) := by
  have d1 : ∀ ρ m, ev (HH k) 63 (.prim false .bytearray [.k (dn 64)]) ρ (σ ++ m) = some (.ba (Array.replicate 64 0), σ ++ m) := fun ρ m => rfl
  rw [h429]
  refine mkF_of (runF_next (ρ := [some (.inst 429 σ.length), none, none]) rfl ?_)
  refine exL_next (at0 rfl (d1 _ _) rfl rfl) ?_
  kernel_rfl
end
end
section
section
variable {k : Nat} {σ : Sg}
theorem it1 {H : Hd} {n : Nat} {ρ : Rho} {o ie : IE} {x : Str} {d : DV} {ks ks' : List Str} {l l' : List DV} {a : AO} {m : Sg} (h1 : ev H n o ρ (σ ++ a :: .dict ks l :: m) = some (.loc (σ.length + 1), σ ++ a :: .dict ks l :: m)) (h2 : ev H n ie ρ (σ ++ a :: .dict ks l :: m) = some (.str x, σ ++ a :: .dict ks l :: m))
    (hl : Nat.ble ks.length 100 = true) (hp : putD x d ks l = (ks', l')) : asgT H n (.it o ie) d ρ (σ ++ a :: .dict ks l :: m) = some (ρ, σ ++ a :: .dict ks' l' :: m) := by
  rw [asg_key h1 h2 get1 (Nat.le_of_ble_eq_true hl), hp, set1]
theorem at2 {H : Hd} {n v : Nat} {ρ : Rho} {C : Addr} {nm : Str} {e : IE} {d : DV} {ks ks' : List Str} {l l' : List DV} {a b : AO} {m m' : Sg} (h1 : ρ.getD v none = some (.inst C (σ.length + 2))) (h2 : ev H (n + 1) e ρ (σ ++ a :: b :: .dict ks l :: m) = some (d, σ ++ a :: b :: .dict ks l :: m'))
    (hl : Nat.ble ks.length 100 = true) (hp : putD nm d ks l = (ks', l')) : ex H (n + 2) (.asg (.at (.v v) nm) e) ρ (σ ++ a :: b :: .dict ks l :: m) = some (.next, ρ, σ ++ a :: b :: .dict ks' l' :: m') := by
  rw [ex_asg, h2, Option.bind_some]
  simp only [asgT]
  rw [ev_v, h1]
  simp only [Option.bind_some, instD_inst, dict_loc get2]
  rw [if_pos (Nat.le_of_ble_eq_true hl), hp, set2]; rfl
theorem h_law_scene {D : List Nat} {m1 m2 iF : Nat} {o : Bool} (hb : ∀ x ∈ D, x < 256) (hD : D.length ≤ 300) : HH (k + 3) 527 [.lst (D.map dn), marksV m1 m2, .loc iF, .str (ordS o)] σ =
    some (.inst 338 (σ.length + 2), σ ++ [.dict pKs (pVs D (σ.length + 1)), .dict mKs (mVs m1 m2), .dict sKs (sVs σ.length iF o)]) := by
  rw [h527]
  have r0 : ev (HH (k + 2)) 63 (.call (.g (.ref 288)) [(.prim false .bytes [(.v 0)]), (.k (dn 2048)), (.k (.bytes #[]))]) [some (.lst (D.map dn)), some (marksV m1 m2), some (.loc iF), some (.str (ordS o)), none, none, none, none] σ =
      some (.inst 288 σ.length, σ ++ [.dict pKs (pVs D (σ.length + 1)), .dict mKs (mVs 0 1)]) := by
    have e := mk_packet (k := k) (σ := σ) hD
    exact walkE (.v _ :: .c _ _ :: []) fun w => w (p_bytes D hb (Nat.le_trans hD (by decide))) e
  have s0 : ex (HH (k + 2)) 64 (.asg (.nm 4) (.call (.g (.ref 288)) [(.prim false .bytes [(.v 0)]), (.k (dn 2048)), (.k (.bytes #[]))])) [some (.lst (D.map dn)), some (marksV m1 m2), some (.loc iF), some (.str (ordS o)), none, none, none, none] σ =
      some (.next, [some (.lst (D.map dn)), some (marksV m1 m2), some (.loc iF), some (.str (ordS o)), some (.inst 288 σ.length), none, none, none], σ ++ [.dict pKs (pVs D (σ.length + 1)), .dict mKs (mVs 0 1)]) := by
    rw [ex_asg, r0]; rfl
  have hat : ∀ (ρ : Rho) (b : AO), ρ.getD 4 none = some (.inst 288 σ.length) → ev (HH (k + 2)) 63 (.attr (.v 4) "meta") ρ (σ ++ .dict pKs (pVs D (σ.length + 1)) :: b :: []) = some (.loc (σ.length + 1), σ ++ .dict pKs (pVs D (σ.length + 1)) :: b :: []) := fun ρ b h => by
    rw [ev_attr, ev_v, h]
    simp only [Option.bind_some, instD_inst]
    rw [dict_loc get0, Option.bind_some, lk_meta]; rfl
  have s1 : ex (HH (k + 2)) 64 (.asgs false [(.it (.attr (.v 4) "meta") (.k (.str "mark"))), (.it (.attr (.v 4) "meta") (.k (.str "iiftype")))] (.tup [(.sub (.v 1) (.k (.str "mark"))), (.sub (.v 1) (.k (.str "iiftype")))])) [some (.lst (D.map dn)), some (marksV m1 m2), some (.loc iF), some (.str (ordS o)), some (.inst 288 σ.length), none, none, none] (σ ++ [.dict pKs (pVs D (σ.length + 1)), .dict mKs (mVs 0 1)]) =
      some (.next, [some (.lst (D.map dn)), some (marksV m1 m2), some (.loc iF), some (.str (ordS o)), some (.inst 288 σ.length), none, none, none], σ ++ [.dict pKs (pVs D (σ.length + 1)), .dict mKs (mVs m1 m2)]) := by
    have k1 : ∀ τ, subV τ (marksV m1 m2) (.str "mark") = some (dn m1) := fun τ => by kernel_rfl
    have k2 : ∀ τ, subV τ (marksV m1 m2) (.str "iiftype") = some (dn m2) := fun τ => by kernel_rfl
    exact walkS (.v _ :: .v _ :: .c .none _ :: .c .none _ :: []) fun w => w (k1 _) (k2 _) (it1 (hat _ _ rfl) rfl rfl (show putD "mark" (dn m1) mKs (mVs 0 1) = (mKs, mVs m1 1) by kernel_rfl)) (it1 (hat _ _ rfl) rfl rfl (show putD "iiftype" (dn m2) mKs (mVs m1 1) = (mKs, mVs m1 m2) by kernel_rfl))
  have s2 : ex (HH (k + 2)) 64 (.asg (.nm 5) (.call (.g (.ref 338)) [(.v 4), (.v 2)])) [some (.lst (D.map dn)), some (marksV m1 m2), some (.loc iF), some (.str (ordS o)), some (.inst 288 σ.length), none, none, none] (σ ++ [.dict pKs (pVs D (σ.length + 1)), .dict mKs (mVs m1 m2)]) =
      some (.next, [some (.lst (D.map dn)), some (marksV m1 m2), some (.loc iF), some (.str (ordS o)), some (.inst 288 σ.length), some (.inst 338 (σ.length + 2)), none, none], σ ++ [.dict pKs (pVs D (σ.length + 1)), .dict mKs (mVs m1 m2), .dict sKs [.inst 288 σ.length, dn 0, .str "input", .none, dn 1, dn 0, .none, .dct [] [], .dct [] [], .loc iF, .dct [] [], .dct [] [], .dct [] [], .dct [] [], .str "little", .lst [], .lst [], .none, .dct [] []]]) := by
    have e := mk_scene (k := k + 1) (σ := σ ++ [.dict pKs (pVs D (σ.length + 1)), .dict mKs (mVs m1 m2)]) (iP := σ.length) (iF := iF)
    simp only [List.length_append, List.length_cons, List.length_nil, List.append_assoc, List.cons_append, List.nil_append] at e
    exact walkS (.c _ _ :: []) fun w => w e
  refine runF_ret (ρ := [some (.lst (D.map dn)), some (marksV m1 m2), some (.loc iF), some (.str (ordS o)), some (.inst 288 σ.length), some (.inst 338 (σ.length + 2)), none, none]) rfl ?_
  refine exL_next s0 (exL_next s1 (exL_next s2 ?_))
  have k2 : ∀ (ρ : Rho) τ, ev (HH (k + 2)) 63 (.dct false ["payload", "meta"] [(.g (.ref 391)), (.g (.ref 398))]) ρ τ = some (.dct ["payload", "meta"] [.con (.ref 391), .con (.ref 398)], τ) := fun ρ τ => rfl
  have k5 : ∀ (ρ : Rho) τ, ev (HH (k + 2)) 63 (.dct false ["payload", "meta", "bitwise", "shift", "byteorder"] [(.g (.ref 468)), (.g (.ref 475)), (.g (.ref 440)), (.g (.ref 447)), (.g (.ref 454))]) ρ τ = some (.dct ["payload", "meta", "bitwise", "shift", "byteorder"] [.con (.ref 468), .con (.ref 475), .con (.ref 440), .con (.ref 447), .con (.ref 454)], τ) := fun ρ τ => rfl
  refine exL_next (at2 rfl rfl rfl rfl) ?_
  refine exL_next (at2 rfl (k2 _ _) rfl rfl) ?_
  refine exL_next (at2 rfl (k5 _ _) rfl rfl) ?_
  kernel_rfl
end
end
section
structure EOk (ks : List Str) (fs : List Fd) (e : Ex) (f : Fd) : Prop where
  d : e.dep ≤ 3
  x : ExOk e
  l : lookF e.base ks fs = some f
  k : FdK f
  z : f.sz ≤ 12
noncomputable def valE (fs : List Fd) (D : List Nat) (m1 m2 : Nat) (e : Ex) : Option Nat := (lookF e.base fKs fs).bind fun f => exval f D m1 m2 e
structure LS (σ : Sg) (n iF iG : Nat) (o : Bool) (D : List Nat) (m1 m2 : Nat) (fs : List Fd) (rl : List Nat) (R : List Nat) (rows : List DV) (nums : List (Option Nat)) : Prop where
  M : Mc σ (n + 2) n (n + 1) (n + 6) (n + 7) iF o D m1 m2 R
  W : Wg σ (n + 3) (n + 4) (n + 5) iF o rows
  F : Fls σ iF fKs fs
  G : σ[iG]? = some (.list (rl.map dn))
  N : σ[n + 8]? = some (.list (nums.map optV))
  q : iF < n ∧ iG < n
  q1 : m1 < 2 ^ 32
  q2 : m2 < 2 ^ 16
noncomputable def zBody : List IS := [
      .asg (.nm 17) (.call (.g (.ref 532)) [(.v 12), (.v 13), (.v 14), (.v 10), (.v 16), (.call (.g (.ref 508)) [(.v 4), (.v 5), (.v 6), (.v 16)])]),
      .ifS (.cmp .Eq (.v 17) (.k (.str "wrong"))) [
        .ret (some (.k (.bool false)))] [
],
      .ex (.app (.v 15) (.v 17))]
section
variable {k : Nat} {σ : Sg} {n iF iG : Nat} {o : Bool} {D : List Nat} {m1 m2 : Nat} {fs : List Fd} {rl R : List Nat} {rows : List DV} {nums : List (Option Nat)}
theorem opt_wrong (v : Option Nat) : cmpV σ .Eq (optV v) (.str "wrong") = some false := by
  cases v <;> rfl
structure ZT (k : Nat) (σ : Sg) (n iF iG : Nat) (o : Bool) (D : List Nat) (m1 m2 : Nat) (fs : List Fd) (rl : List Nat) (rows : List DV) (nums : List (Option Nat)) (e : Ex) (r : Nat) (σ' : Sg) (R' : List Nat) (rows' : List DV) : Prop where
  h : ∀ (x0 x1 x2 x3 x7 x8 x9 x10 x11 x16 x17 x18 x19 x20 : Option DV), (setAll [x0, x1, x2, x3, some (.lst (D.map dn)), some (marksV m1 m2), some (.loc iF), x7, x8, x9, x10, x11, some (.inst 338 (n + 2)), some (.inst 176 (n + 3)), some (.inst 429 (n + 6)), some (.loc (n + 8)), x16, x17, x18, x19, x20] [10, 16] [dn r, exv e]).bind (fun ρ'' => exL (ex (HH (k + 15)) 62) zBody ρ'' σ) =
      some (.next, [x0, x1, x2, x3, some (.lst (D.map dn)), some (marksV m1 m2), some (.loc iF), x7, x8, x9, some (dn r), x11, some (.inst 338 (n + 2)), some (.inst 176 (n + 3)), some (.inst 429 (n + 6)), some (.loc (n + 8)), some (exv e), some (optV (valE fs D m1 m2 e)), x18, x19, x20], σ')
  S : LS σ' n iF iG o D m1 m2 fs rl R' rows' (nums ++ [valE fs D m1 m2 e])
  l : rows'.length ≤ rows.length + 12
  f : Fr [n + 4, n + 7, n + 8] σ σ'
theorem z_turn (S : LS σ n iF iG o D m1 m2 fs rl R rows nums) {e : Ex} {f : Fd} (E : EOk fKs fs e f) {r : Nat} (hr : r ≤ 12) (hl : rows.length ≤ 480) (hn : nums.length ≤ 20) :
    ∃ σ' R' rows', ZT k σ n iF iG o D m1 m2 fs rl rows nums e r σ' R' rows' := by
  have hq := S.q
  have hv : valE fs D m1 m2 e = exval f D m1 m2 e := by unfold valE; rw [E.l]; rfl
  have hz := E.k.ok.sz
  have hpz : 4 * r + (f.sz + padl f.sz) ≤ 64 := by have := E.z; unfold padl; lia
  have hdue := h_due S.F E.k S.M.db S.M.dl S.q1 S.q2 e (k + 14 - e.dep) E.x E.l
  have hd3 := E.d
  rw [show k + 14 - e.dep + 1 + e.dep = k + 15 by lia] at hdue
  have hleft := h_law_left (k := k + 1) S.M S.W S.F (by refine ⟨?_, ?_, ?_, ?_, ?_⟩ <;> lia) (by refine ⟨?_, ?_, ?_⟩ <;> lia) E.k (r := r) S.q1 S.q2 hpz e (by lia) E.d E.x E.l
  rw [show k + 1 + 14 = k + 15 by lia] at hleft
  have hxl := exRows_len f o r e
  have L1 : (n + 4) < σ.length := (List.getElem?_eq_some_iff.mp S.W.r).1
  have L2 : (n + 7) < σ.length := (List.getElem?_eq_some_iff.mp S.M.g.o).1
  have L3 : (n + 8) < σ.length := (List.getElem?_eq_some_iff.mp S.N).1
  have M1 := S.M.add (iRows := n + 4) (by refine ⟨?_, ?_, ?_, ?_, ?_⟩ <;> lia) (rows ++ exRows f o r e)
  have W1 := S.W.add (rows ++ exRows f o r e)
  have F1 := S.F.add (iR := n + 4) (by lia) (rows ++ exRows f o r e)
  have f1 : Fr [n + 4] σ (addR σ (n + 4) (rows ++ exRows f o r e)) := Fr.set
  have G1 := f1.get S.G (by simp; lia)
  have N1 := f1.get S.N (by simp)
  generalize addR σ (n + 4) (rows ++ exRows f o r e) = σ1 at *
  have hRl : (leftR R r f o (exval f D m1 m2 e)).length = 64 ∧ ∀ x ∈ leftR R r f o (exval f D m1 m2 e), x < 256 := by
    cases exval f D m1 m2 e with
    | none => exact ⟨S.M.g.n, S.M.g.b⟩
    | some v => exact ⟨putR_len S.M.g.n (by rw [enc_len]; exact hpz), putR_lt S.M.g.b (enc_lt _ _ _)⟩
  generalize leftR R r f o (exval f D m1 m2 e) = R' at *
  have M2 := M1.put hRl.1 hRl.2
  have W2 := W1.put (iO := n + 7) (by lia) (by lia) R'
  have F2 := F1.put (iO := n + 7) (by lia) R'
  have f2 : Fr [n + 7] σ1 (setO σ1 (n + 7) R') := Fr.set
  have G2 := f2.get G1 (by simp; lia)
  have N2 := f2.get N1 (by simp)
  generalize setO σ1 (n + 7) R' = σ2 at *
  generalize exval f D m1 m2 e = v at *
  have f3 : Fr [n + 8] σ2 (σ2.set (n + 8) (.list (nums.map optV ++ [optV v]))) := Fr.set
  refine ⟨σ2.set (n + 8) (.list (nums.map optV ++ [optV v])), R', rows ++ exRows f o r e, fun x0 x1 x2 x3 x7 x8 x9 x10 x11 x16 x17 x18 x19 x20 => ?_, ?_, by simp; lia, (f1.mono (by simp)).trans ((f2.mono (by simp)).trans (f3.mono (by simp)))⟩
  · rw [hv]
    show exL (ex (HH (k + 15)) 62) zBody [x0, x1, x2, x3, some (.lst (D.map dn)), some (marksV m1 m2), some (.loc iF), x7, x8, x9, some (dn r), x11, some (.inst 338 (n + 2)), some (.inst 176 (n + 3)), some (.inst 429 (n + 6)), some (.loc (n + 8)), some (exv e), x17, x18, x19, x20] σ = _
    exact walkL (.c _ _ :: .c _ _ :: .b _ :: .b _ :: .c _ _ :: []) fun w => w hdue hleft (opt_wrong v) (appQ_of N2) (appV_of N2 (by simp; lia))
  · rw [hv]
    have L3' : n + 8 < σ2.length := (List.getElem?_eq_some_iff.mp N2).1
    refine ⟨⟨f3.get M2.s (by simp), f3.get M2.p (by simp), f3.get M2.m (by simp), ⟨f3.get M2.g.d (by simp), f3.get M2.g.o (by simp), M2.g.n, M2.g.b⟩, M2.ne, M2.db, M2.dl⟩, ⟨f3.get W2.w (by simp), f3.get W2.r (by simp), W2.n⟩, ⟨f3.get F2.d (by simp; lia)⟩, f3.get G2 (by simp; lia), ?_, S.q, S.q1, S.q2⟩
    rw [List.getElem?_set_self L3']; simp
end
end
section
section
variable {k : Nat} {σ : Sg} {n iF iG : Nat} {o : Bool} {D : List Nat} {m1 m2 : Nat} {fs : List Fd} {rl R : List Nat} {rows : List DV} {nums : List (Option Nat)}
theorem forZ_step {f : List DV → Rho → Sg → Out} {la j : Nat} {x y : DV} {l r : List DV} {ρ ρ₁ : Rho} {σ₁ : Sg} {o : Out} (hl : σ[la]? = some (.list l)) (hx : l[j]? = some x) (h : f [x, y] ρ σ = some (.next, ρ₁, σ₁)) (h' : forZL f la (j + 1) r ρ₁ σ₁ = o) : forZL f la j (y :: r) ρ σ = o := by
  unfold forZL
  rw [items_loc hl]
  simp only [Option.bind_some, hx, h, turnF_next, h']
structure ZL (k n iF iG : Nat) (o : Bool) (D : List Nat) (m1 m2 : Nat) (fs : List Fd) (rl : List Nat) (es : List Ex) (j : Nat) (σ : Sg) (nums : List (Option Nat)) (σ' : Sg) (R' : List Nat) (rows' : List DV) : Prop where
  S : LS σ' n iF iG o D m1 m2 fs rl R' rows' (nums ++ es.map (valE fs D m1 m2))
  f : Fr [n + 4, n + 7, n + 8] σ σ'
  h : ∀ (x0 x1 x2 x3 x7 x8 x9 x10 x11 x16 x17 x18 x19 x20 : Option DV), ∃ y10 y16 y17,
    forZL (fun x ρ' s => (setAll ρ' [10, 16] x).bind fun ρ'' => exL (ex (HH (k + 15)) 62) zBody ρ'' s) iG j (es.map exv) [x0, x1, x2, x3, some (.lst (D.map dn)), some (marksV m1 m2), some (.loc iF), x7, x8, x9, x10, x11, some (.inst 338 (n + 2)), some (.inst 176 (n + 3)), some (.inst 429 (n + 6)), some (.loc (n + 8)), x16, x17, x18, x19, x20] σ =
      some (.next, [x0, x1, x2, x3, some (.lst (D.map dn)), some (marksV m1 m2), some (.loc iF), x7, x8, x9, y10, x11, some (.inst 338 (n + 2)), some (.inst 176 (n + 3)), some (.inst 429 (n + 6)), some (.loc (n + 8)), y16, y17, x18, x19, x20], σ')
theorem z_loop (hrl : ∀ r ∈ rl, r ≤ 12) : ∀ (es : List Ex) (j : Nat) (σ : Sg) (R : List Nat) (rows : List DV) (nums : List (Option Nat)), LS σ n iF iG o D m1 m2 fs rl R rows nums → (∀ e ∈ es, ∃ f, EOk fKs fs e f) → j + es.length ≤ rl.length → rows.length + 12 * es.length ≤ 480 → nums.length + es.length ≤ 20 →
    ∃ σ' R' rows', ZL k n iF iG o D m1 m2 fs rl es j σ nums σ' R' rows'
  | [], j, σ, R, rows, nums, S, _, _, _, _ => ⟨σ, R, rows, by simpa using S, Fr.refl, fun x0 x1 x2 x3 x7 x8 x9 x10 x11 x16 x17 x18 x19 x20 => ⟨x10, x16, x17, by
      show (items σ (.loc iG)).bind _ = _
      rw [items_loc S.G]; rfl⟩⟩
  | e :: es, j, σ, R, rows, nums, S, hE, hj, hr, hn => by
    obtain ⟨f, E⟩ := hE e (by simp)
    simp only [List.length_cons] at hj hr hn
    have hjl : j < rl.length := by lia
    have hj0 : (rl.map dn)[j]? = some (dn rl[j]) := by simp [hjl]
    have hr12 := hrl rl[j] (List.getElem_mem hjl)
    obtain ⟨σ1, R1, rows1, h1, S1, l1, f1⟩ := z_turn (k := k) S E hr12 (by lia) (by lia)
    obtain ⟨σ2, R2, rows2, S2, f2, h2⟩ := z_loop hrl es (j + 1) σ1 R1 rows1 (nums ++ [valE fs D m1 m2 e]) S1 (fun e' he' => hE e' (by simp [he'])) (by lia) (by lia) (by simp; lia)
    refine ⟨σ2, R2, rows2, by simpa using S2, f1.trans f2, fun x0 x1 x2 x3 x7 x8 x9 x10 x11 x16 x17 x18 x19 x20 => ?_⟩
    obtain ⟨y10, y16, y17, h3⟩ := h2 x0 x1 x2 x3 x7 x8 x9 (some (dn rl[j])) x11 (some (exv e)) (some (optV (valE fs D m1 m2 e))) x18 x19 x20
    exact ⟨y10, y16, y17, forZ_step S.G hj0 (h1 x0 x1 x2 x3 x7 x8 x9 x10 x11 x16 x17 x18 x19 x20) h3⟩
end
end
section
theorem cat_step {N L a s c : Nat} (h : a + s + c ≤ L) : (N / 2 ^ (L - (a + s)) % 2 ^ s) * 2 ^ c + N / 2 ^ (L - (a + s + c)) % 2 ^ c = N / 2 ^ (L - (a + s + c)) % 2 ^ (s + c) := by
  have e : L - (a + s) = L - (a + s + c) + c := by lia
  rw [e, Nat.pow_add 2 _ c, ← Nat.div_div_eq_div_mul, Nat.add_comm s c, Nat.pow_add 2 c s, Nat.mod_mul]
  generalize N / 2 ^ (L - (a + s + c)) = X
  rw [Nat.mul_comm, Nat.add_comm]
noncomputable def pc (N L a s : Nat) : Nat := N / 2 ^ (L - (a + s)) % 2 ^ s
theorem fval_in {D : List Nat} {m1 m2 a s : Nat} (h : a + s ≤ 8 * D.length) : fval (.pay a s) D m1 m2 = some (pc (num D) (8 * D.length) a s) := by
  unfold fval pc; simp [h]
theorem nones_opt : ∀ l : List (Option Nat), nonesL (l.map optV) = some (l.map Option.isNone)
  | [] => rfl
  | none :: l => by
    show (nonesL (l.map optV)).map (true :: ·) = _
    rw [nones_opt l]; rfl
  | some a :: l => by
    show (nonesL (l.map optV)).map (false :: ·) = _
    rw [nones_opt l]; rfl
noncomputable def jBody : List IS := [
        .asg (.nm 18) (.bin false .Add (.bin false .Mult (.v 18) (.bin false .Pow (.k (dn 2)) (.sub (.sub (.v 6) (.bin false .Add (.k (.str "f")) (.prim false .str [(.v 1)]))) (.k (dn 2))))) (.sub (.v 15) (.v 1)))]
noncomputable def jEnd : IS := .ifS (.cmp .NotIn (.k .none) (.sl (.v 15) none (some (.k (dn 6))) none)) [
      .asg (.nm 18) (.k (dn 0)),
      .for_ [1] .range (.k (dn 5)) jBody,
      .ifS (.cmp .NotEq (.v 18) (.sub (.v 15) (.k (dn 5)))) [
        .ret (some (.k (.bool false)))] [
]] [
]
section
variable {k : Nat} {σ : Sg} {iF iN : Nat} {D : List Nat} {m1 m2 : Nat} {fs : List Fd} {nums : List DV}
theorem j_turn {H : Hd} (hF : Fls σ iF fKs fs) (hN : σ[iN]? = some (.list nums)) {q a c v J : Nat} (hq : q < 5) (hc : c ≤ 17) (hf : lookF (fN q) fKs fs = some (.pay a c)) (hv : nums[q]? = some (dn v)) (hJ : J < lim)
    (x0 x1 x2 x3 x4 x5 x7 x8 x9 x10 x11 x12 x13 x14 x16 x17 x19 x20 : Option DV) :
    (setAll [x0, x1, x2, x3, x4, x5, some (.loc iF), x7, x8, x9, x10, x11, x12, x13, x14, some (.loc iN), x16, x17, some (dn J), x19, x20] [1] [dn q]).bind (fun ρ'' => exL (ex H 61) jBody ρ'' σ) =
      some (.next, [x0, some (dn q), x2, x3, x4, x5, some (.loc iF), x7, x8, x9, x10, x11, x12, x13, x14, some (.loc iN), x16, x17, some (dn (J * 2 ^ c + v)), x19, x20], σ) := by
  have hlk := look_fdv (fN q) fKs fs
  rw [hf] at hlk
  have hp := b_pow (a := 2) (b := c) (by decide) (Nat.le_trans hc (by decide))
  have hm := b_mul hJ (show 2 ^ c < lim from lim_of (l := 3) (Nat.lt_of_le_of_lt (Nat.pow_le_pow_right (by decide) hc) (by decide)) (by decide))
  have hs : subV σ (.loc iN) (dn q) = some (dn v) := by rw [n_loc hN (Nat.lt_of_lt_of_le hq (show 5 ≤ big by decide)), hv]
  show exL (ex H 61) jBody [x0, some (dn q), x2, x3, x4, x5, some (.loc iF), x7, x8, x9, x10, x11, x12, x13, x14, some (.loc iN), x16, x17, some (dn J), x19, x20] σ = _
  exact walkL (.v _ :: .v _ :: .v _ :: .r :: .v _ :: .v _ :: .v _ :: .v _ :: []) fun w => w (fN_str hq) (fN_add hq) (key_of hF.d hlk) hp hm hs b_add
theorem not_in_none {l : List (Option Nat)} : cmpV σ .NotIn .none (.lst (l.map optV)) = some (!decide (true ∈ l.map Option.isNone)) := by
  show ((nonesL (l.map optV)).map fun bs => decide (true ∈ bs)).map (!·) = _
  rw [nones_opt]; rfl
theorem j_end {H : Hd} {b c0 c1 c2 c3 c4 g : Nat} (b0 : c0 ≤ 17) (b1 : c1 ≤ 17) (b2 : c2 ≤ 17) (b3 : c3 ≤ 17) (b4 : c4 ≤ 17) (hF : Fls σ iF fKs (fFs b c0 c1 c2 c3 c4 g D.length)) {rest : List (Option Nat)} (hr : rest.length ≤ 20)
    (hN : σ[iN]? = some (.list ((fval (.pay b c0) D m1 m2 :: fval (.pay (b + c0) c1) D m1 m2 :: fval (.pay (b + c0 + c1) c2) D m1 m2 :: fval (.pay (b + c0 + c1 + c2) c3) D m1 m2 :: fval (.pay (b + c0 + c1 + c2 + c3) c4) D m1 m2 :: fval (.pay b (c0 + c1 + c2 + c3 + c4)) D m1 m2 :: rest).map optV)))
    (x0 x1 x2 x3 x4 x5 x7 x8 x9 x10 x11 x12 x13 x14 x16 x17 x18 x19 x20 : Option DV) :
    ∃ y1 y18, ex H 63 jEnd [x0, x1, x2, x3, x4, x5, some (.loc iF), x7, x8, x9, x10, x11, x12, x13, x14, some (.loc iN), x16, x17, x18, x19, x20] σ =
      some (.next, [x0, y1, x2, x3, x4, x5, some (.loc iF), x7, x8, x9, x10, x11, x12, x13, x14, some (.loc iN), x16, x17, y18, x19, x20], σ) := by
  have hsl := sl_to (σ := σ) (items_loc hN) (by simp; lia) (a := 6) (by simp)
  by_cases hin : b + (c0 + c1 + c2 + c3 + c4) ≤ 8 * D.length
  · generalize hL : 8 * D.length = L at *
    rw [fval_in (by lia), fval_in (by lia), fval_in (by lia), fval_in (by lia), fval_in (by lia), fval_in (by lia), hL] at hN hsl
    replace hN := hN
    replace hsl := hsl
    generalize num D = N at *
    have lp : ∀ a s, s ≤ 85 → pc N L a s < lim := fun a s hs => lim_of (l := 11) (Nat.lt_of_lt_of_le (Nat.mod_lt _ (Nat.two_pow_pos s)) (Nat.le_trans (Nat.pow_le_pow_right (by decide) hs) (by decide))) (by decide)
    have e1 : pc N L b c0 * 2 ^ c1 + pc N L (b + c0) c1 = pc N L b (c0 + c1) := by
      have := cat_step (N := N) (L := L) (a := b) (s := c0) (c := c1) (by lia)
      simpa [pc, Nat.add_assoc] using this
    have e2 : pc N L b (c0 + c1) * 2 ^ c2 + pc N L (b + c0 + c1) c2 = pc N L b (c0 + c1 + c2) := by
      have := cat_step (N := N) (L := L) (a := b) (s := c0 + c1) (c := c2) (by lia)
      simpa [pc, Nat.add_assoc] using this
    have e3 : pc N L b (c0 + c1 + c2) * 2 ^ c3 + pc N L (b + c0 + c1 + c2) c3 = pc N L b (c0 + c1 + c2 + c3) := by
      have := cat_step (N := N) (L := L) (a := b) (s := c0 + c1 + c2) (c := c3) (by lia)
      simpa [pc, Nat.add_assoc] using this
    have e4 : pc N L b (c0 + c1 + c2 + c3) * 2 ^ c4 + pc N L (b + c0 + c1 + c2 + c3) c4 = pc N L b (c0 + c1 + c2 + c3 + c4) := by
      have := cat_step (N := N) (L := L) (a := b) (s := c0 + c1 + c2 + c3) (c := c4) (by lia)
      simpa [pc, Nat.add_assoc] using this
    have t0 := j_turn (H := H) hF hN (q := 0) (a := b) (c := c0) (v := pc N L b c0) (J := 0) (by decide) b0 rfl rfl (lim_small (by decide)) x0 x1 x2 x3 x4 x5 x7 x8 x9 x10 x11 x12 x13 x14 x16 x17 x19 x20
    have t1 := j_turn (H := H) hF hN (q := 1) (a := b + c0) (c := c1) (v := pc N L (b + c0) c1) (J := pc N L b c0) (by decide) b1 rfl rfl (lp _ _ (by lia)) x0 (some (dn 0)) x2 x3 x4 x5 x7 x8 x9 x10 x11 x12 x13 x14 x16 x17 x19 x20
    have t2 := j_turn (H := H) hF hN (q := 2) (a := b + c0 + c1) (c := c2) (v := pc N L (b + c0 + c1) c2) (J := pc N L b (c0 + c1)) (by decide) b2 rfl rfl (lp _ _ (by lia)) x0 (some (dn 1)) x2 x3 x4 x5 x7 x8 x9 x10 x11 x12 x13 x14 x16 x17 x19 x20
    have t3 := j_turn (H := H) hF hN (q := 3) (a := b + c0 + c1 + c2) (c := c3) (v := pc N L (b + c0 + c1 + c2) c3) (J := pc N L b (c0 + c1 + c2)) (by decide) b3 rfl rfl (lp _ _ (by lia)) x0 (some (dn 2)) x2 x3 x4 x5 x7 x8 x9 x10 x11 x12 x13 x14 x16 x17 x19 x20
    have t4 := j_turn (H := H) hF hN (q := 4) (a := b + c0 + c1 + c2 + c3) (c := c4) (v := pc N L (b + c0 + c1 + c2 + c3) c4) (J := pc N L b (c0 + c1 + c2 + c3)) (by decide) b4 rfl rfl (lp _ _ (by lia)) x0 (some (dn 3)) x2 x3 x4 x5 x7 x8 x9 x10 x11 x12 x13 x14 x16 x17 x19 x20
    rw [Nat.zero_mul, Nat.zero_add] at t0
    rw [e1] at t1; rw [e2] at t2; rw [e3] at t3; rw [e4] at t4
    have hloop := for_of (H := H) (n := 61) (vs := [1]) (ik := .range) (src := .k (dn 5)) (b := jBody) (σ := σ) (σ₁ := σ) (d := dn 5) (its := [[dn 0], [dn 1], [dn 2], [dn 3], [dn 4]]) (o := some (.next, [x0, some (dn 4), x2, x3, x4, x5, some (.loc iF), x7, x8, x9, x10, x11, x12, x13, x14, some (.loc iN), x16, x17, some (dn (pc N L b (c0 + c1 + c2 + c3 + c4))), x19, x20], σ)) rfl rfl (by decide)
      ((forL_step t0).trans ((forL_step t1).trans ((forL_step t2).trans ((forL_step t3).trans ((forL_step t4).trans rfl)))))
    refine ⟨some (dn 4), some (dn (pc N L b (c0 + c1 + c2 + c3 + c4))), ?_⟩
    rw [← List.map_take] at hsl
    replace hsl := hsl
    have hc := not_in_none (σ := σ) (l := List.take 6 (some (pc N L b c0) :: some (pc N L (b + c0) c1) :: some (pc N L (b + c0 + c1) c2) :: some (pc N L (b + c0 + c1 + c2) c3) :: some (pc N L (b + c0 + c1 + c2 + c3) c4) :: some (pc N L b (c0 + c1 + c2 + c3 + c4)) :: rest))
    rw [decide_eq_false (by simp)] at hc
    replace hc := hc
    generalize List.take 6 (some (pc N L b c0) :: some (pc N L (b + c0) c1) :: some (pc N L (b + c0 + c1) c2) :: some (pc N L (b + c0 + c1 + c2) c3) :: some (pc N L (b + c0 + c1 + c2 + c3) c4) :: some (pc N L b (c0 + c1 + c2 + c3 + c4)) :: rest) = T at *
    have h5 : subV σ (.loc iN) (dn 5) = some (dn (pc N L b (c0 + c1 + c2 + c3 + c4))) := by rw [n_loc hN (by decide)]; rfl
    exact walkS (.v _ :: .b _ :: .s _ _ _ :: .v _ :: .b _ :: []) fun w => w hsl hc hloop h5 (cN c_ne fun h => h rfl)
  · refine ⟨x1, x18, ?_⟩
    have hn : fval (.pay b (c0 + c1 + c2 + c3 + c4)) D m1 m2 = none := by unfold fval; simp [hin]
    rw [hn] at hsl
    replace hsl := hsl
    rw [← List.map_take] at hsl
    have hc := not_in_none (σ := σ) (l := List.take 6 (fval (.pay b c0) D m1 m2 :: fval (.pay (b + c0) c1) D m1 m2 :: fval (.pay (b + c0 + c1) c2) D m1 m2 :: fval (.pay (b + c0 + c1 + c2) c3) D m1 m2 :: fval (.pay (b + c0 + c1 + c2 + c3) c4) D m1 m2 :: none :: rest))
    rw [decide_eq_true (by simp)] at hc
    generalize List.take 6 (fval (.pay b c0) D m1 m2 :: fval (.pay (b + c0) c1) D m1 m2 :: fval (.pay (b + c0 + c1) c2) D m1 m2 :: fval (.pay (b + c0 + c1 + c2) c3) D m1 m2 :: fval (.pay (b + c0 + c1 + c2 + c3) c4) D m1 m2 :: none :: rest) = T at *
    exact walkS (.v _ :: .b _ :: []) fun w => w hsl hc
end
end
section
noncomputable def ordBody : List IS := [
    .asgs true [(.nm 12), (.nm 13), (.nm 14)] (.tup [(.call (.g (.ref 527)) [(.v 4), (.v 5), (.v 6), (.v 11)]), (.call (.g (.ref 176)) [(.v 6), (.k (.str "inet")), (.v 11), (.k (.str "p"))]), (.call (.g (.ref 429)) [])]),
    .asg (.at (.v 14) "octets") (.prim true .bytearray [(.comp .range (.k (dn 64)) [19] (.bin false .Mod (.bin false .Add (.bin false .Mult (.k (dn 7)) (.v 19)) (.k (dn 130))) (.k (dn 256))))]),
    .asg (.nm 15) (.lst true []),
    .forZ 10 16 (.v 8) (.v 7) zBody,
    jEnd]
section
variable {k : Nat} {σ : Sg} {iF iG : Nat} {o : Bool} {D : List Nat} {m1 m2 : Nat} {rl : List Nat}
theorem ex_forZ {H : Hd} {n i j la : Nat} {a b : IE} {body : List IS} {ρ : Rho} {l : List DV} {out : Out} (h1 : ev H n a ρ σ = some (.loc la, σ)) (h2 : ev H n b ρ σ = some (.lst l, σ)) (hl : l.length ≤ 1000)
    (h3 : forZL (fun x ρ' s => (setAll ρ' [i, j] x).bind fun ρ'' => exL (ex H n) body ρ'' s) la 0 l ρ σ = out) : ex H (n + 1) (.forZ i j a b body) ρ σ = out := by
  show ((ev H n a ρ σ).bind fun p => (ev H n b ρ p.2).bind fun q => (locD p.1).bind fun la => (lstD q.1).bind fun l => if l.length ≤ big then forZL (fun x ρ' s => (setAll ρ' [i, j] x).bind fun ρ'' => exL (ex H n) body ρ'' s) la 0 l ρ q.2 else none) = _
  rw [h1, Option.bind_some, h2, Option.bind_some, locD_loc, Option.bind_some, lstD_lst, Option.bind_some]
  rw [if_pos (Nat.le_trans hl (by decide)), h3]
noncomputable def r0 : List Nat := (List.range 64).map fun q => (7 * q + 130) % 256
theorem r0_len : r0.length = 64 := by simp [r0]
theorem r0_lt : ∀ x ∈ r0, x < 256 := by
  intro x hx
  obtain ⟨q, _, rfl⟩ := List.mem_map.mp hx
  exact Nat.mod_lt _ (by decide)
theorem r0_ev {H : Hd} {ρ : Rho} (h : ρ.length = 21) : ev H 62 (.prim true .bytearray [(.comp .range (.k (dn 64)) [19] (.bin false .Mod (.bin false .Add (.bin false .Mult (.k (dn 7)) (.v 19)) (.k (dn 130))) (.k (dn 256))))]) ρ σ = some (.loc σ.length, σ ++ [.ba (toB r0)]) := by
  have hc := comp_range (σ := σ) (H := H) (n := 60) (src := .k (dn 64)) (elt := .bin false .Mod (.bin false .Add (.bin false .Mult (.k (dn 7)) (.v 19)) (.k (dn 130))) (.k (dn 256))) (v := 19) (m := 64) (ρ := ρ) (fun q => dn ((7 * q + 130) % 256)) rfl (Nat.le_trans (by decide) (show 100 ≤ big by decide)) (by lia) fun q hq => by
    have m := b_mul (lim_small (show 7 ≤ 100000 by decide)) (lim_small (show q ≤ 100000 by lia))
    have d := b_mod (a := 7 * q + 130) (b := 256) (by decide)
    have g : (ρ.set 19 (some (dn q))).getD 19 none = some (dn q) := by
      rw [List.getD_eq_getElem?_getD, List.getElem?_set_self (by lia)]; rfl
    simp only [ev_bin, ev_k, ev_v, g, Option.bind_some, m, b_add, d, fin_false]
  have hl : (List.range 64).map (fun q => dn ((7 * q + 130) % 256)) = r0.map dn := by rw [r0, List.map_map]; rfl
  rw [hl] at hc
  have hp := p_bytearray (σ := σ) r0 r0_lt (by rw [r0_len]; exact Nat.le_trans (by decide) (show 100 ≤ big by decide))
  show (Option.bind (Option.bind (ev H 61 _ ρ σ) _) _) = _
  rw [hc]
  simp only [Option.bind_some, evL_nil]
  rw [hp]; rfl
theorem at6 {H : Hd} {n : Nat} {ρ : Rho} {C : Addr} {e : IE} {a b c d u v h : AO} {z : DV} (h1 : ρ.getD 14 none = some (.inst C (σ.length + 6))) (h2 : ∀ τ, ev H (n + 1) e ρ τ = some (.loc τ.length, τ ++ [h])) :
    ex H (n + 2) (.asg (.at (.v 14) "octets") e) ρ (σ ++ [a, b, c, d, u, v, .dict ["octets"] [z]]) = some (.next, ρ, σ ++ [a, b, c, d, u, v, .dict ["octets"] [.loc (σ.length + 7)], h]) := by
  rw [ex_asg, h2, Option.bind_some]
  simp only [asgT]
  rw [ev_v, h1]
  simp only [Option.bind_some, instD_inst]
  rw [dict_loc (show (σ ++ [a, b, c, d, u, v, .dict ["octets"] [z]] ++ [h])[σ.length + 6]? = some (.dict ["octets"] [z]) by simp), Option.bind_some, if_pos (Nat.le_of_ble_eq_true rfl)]
  rw [show (σ ++ [a, b, c, d, u, v, .dict ["octets"] [z]]).length = σ.length + 7 by simp]
  have hp : putD "octets" (.loc (σ.length + 7)) ["octets"] [z] = ((["octets"] : List Str), [DV.loc (σ.length + 7)]) := rfl
  dsimp only
  rw [hp]
  simp
structure OT (k : Nat) (σ : Sg) (iF iG : Nat) (o : Bool) (D : List Nat) (m1 m2 : Nat) (ws : List Ex) (σ' : Sg) : Prop where
  f : Fr [] σ σ'
  h : ∀ (x0 x1 x2 x3 x9 x10 x11 x12 x13 x14 x15 x16 x17 x18 x19 x20 : Option DV), ∃ y1 y10 y12 y13 y14 y15 y16 y17 y18, (setAll [x0, x1, x2, x3, some (.lst (D.map dn)), some (marksV m1 m2), some (.loc iF), some (.lst (([Ex.fld "f0", .fld "f1", .fld "f2", .fld "f3", .fld "f4", .fld "all"] ++ ws).map exv)), some (.loc iG), x9, x10, x11, x12, x13, x14, x15, x16, x17, x18, x19, x20] [11] [.str (ordS o)]).bind (fun ρ'' => exL (ex (HH (k + 15)) 63) ordBody ρ'' σ) =
      some (.next, [x0, y1, x2, x3, some (.lst (D.map dn)), some (marksV m1 m2), some (.loc iF), some (.lst (([Ex.fld "f0", .fld "f1", .fld "f2", .fld "f3", .fld "f4", .fld "all"] ++ ws).map exv)), some (.loc iG), x9, y10, some (.str (ordS o)), y12, y13, y14, y15, y16, y17, y18, x19, x20], σ')
theorem ord_turn {b c0 c1 c2 c3 c4 g : Nat} (b0 : c0 ≤ 17) (b1 : c1 ≤ 17) (b2 : c2 ≤ 17) (b3 : c3 ≤ 17) (b4 : c4 ≤ 17) (hF : Fls σ iF fKs (fFs b c0 c1 c2 c3 c4 g D.length)) (hG : σ[iG]? = some (.list (rl.map dn))) (hrl : ∀ r ∈ rl, r ≤ 12) (hr9 : rl.length = 9)
    (hD : ∀ x ∈ D, x < 256) (hl : D.length ≤ 300) (q1 : m1 < 2 ^ 32) (q2 : m2 < 2 ^ 16) {ws : List Ex} (hw : ws.length = 3) (hE : ∀ e ∈ [Ex.fld "f0", .fld "f1", .fld "f2", .fld "f3", .fld "f4", .fld "all"] ++ ws, ∃ f, EOk fKs (fFs b c0 c1 c2 c3 c4 g D.length) e f) :
    ∃ σ', OT k σ iF iG o D m1 m2 ws σ' := by
  have nF : iF < σ.length := (List.getElem?_eq_some_iff.mp hF.d).1
  have nG : iG < σ.length := (List.getElem?_eq_some_iff.mp hG).1
  generalize hes : [Ex.fld "f0", .fld "f1", .fld "f2", .fld "f3", .fld "f4", .fld "all"] ++ ws = es at *
  have hel : es.length = 9 := by rw [← hes]; simp [hw]
  generalize hfs : fFs b c0 c1 c2 c3 c4 g D.length = fs at *
  have e1 := h_law_scene (k := k + 12) (σ := σ) (iF := iF) (o := o) (m1 := m1) (m2 := m2) hD hl
  have e2 := mk_rowing (k := k + 14) (σ := σ ++ [.dict pKs (pVs D (σ.length + 1)), .dict mKs (mVs m1 m2), .dict sKs (sVs σ.length iF o)]) (iF := iF) (o := o)
  have e3 := mk_regs (k := k + 14) (σ := σ ++ [.dict pKs (pVs D (σ.length + 1)), .dict mKs (mVs m1 m2), .dict sKs (sVs σ.length iF o), .dict wKs [.loc iF, .str "inet", .str (ordS o), .str "p", .loc (σ.length + 4), .dct [] [], .loc (σ.length + 5), .dct [] [], .dct [] []], .list [], .dict [] []])
  simp only [List.length_append, List.length_cons, List.length_nil, List.append_assoc, List.cons_append, List.nil_append, Nat.zero_add, Nat.add_assoc, Nat.reduceAdd] at e2 e3
  have S : LS (σ ++ [.dict pKs (pVs D (σ.length + 1)), .dict mKs (mVs m1 m2), .dict sKs (sVs σ.length iF o), .dict wKs [.loc iF, .str "inet", .str (ordS o), .str "p", .loc (σ.length + 4), .dct [] [], .loc (σ.length + 5), .dct [] [], .dct [] []], .list [], .dict [] [], .dict ["octets"] [.loc (σ.length + 7)], .ba (toB r0), .list []]) σ.length iF iG o D m1 m2 fs rl r0 [] [] :=
    ⟨⟨by simp, by simp, by simp, ⟨by simp, by simp, r0_len, r0_lt⟩, by refine ⟨?_, ?_, ?_, ?_⟩ <;> lia, hD, hl⟩, ⟨by simp, by simp, by lia, by lia⟩, ⟨(Fr.app (l := [])).get hF.d (by simp)⟩, (Fr.app (l := [])).get hG (by simp), by simp, ⟨nF, nG⟩, q1, q2⟩
  obtain ⟨σ', R', rows', S', f', h'⟩ := z_loop (k := k) hrl es 0 _ _ _ _ S hE (by lia) (by simp; lia) (by simp; lia)
  refine ⟨σ', ⟨Nat.le_trans (by simp) f'.1, fun j hj _ => ?_⟩, ?_⟩
  · rw [f'.2 j (by simp; lia) (by simp; lia)]
    exact List.getElem?_append_left hj
  intro x0 x1 x2 x3 x9 x10 x11 x12 x13 x14 x15 x16 x17 x18 x19 x20
  obtain ⟨y10, y16, y17, hz⟩ := h' x0 x1 x2 x3 (some (.lst (es.map exv))) (some (.loc iG)) x9 x10 (some (.str (ordS o))) x16 x17 x18 x19 x20
  have hN := S'.N
  have hF' := S'.F
  subst hfs
  rw [← hes] at hN
  have hlast : ([] ++ ([Ex.fld "f0", .fld "f1", .fld "f2", .fld "f3", .fld "f4", .fld "all"] ++ ws).map (valE (fFs b c0 c1 c2 c3 c4 g D.length) D m1 m2)) = fval (.pay b c0) D m1 m2 :: fval (.pay (b + c0) c1) D m1 m2 :: fval (.pay (b + c0 + c1) c2) D m1 m2 :: fval (.pay (b + c0 + c1 + c2) c3) D m1 m2 :: fval (.pay (b + c0 + c1 + c2 + c3) c4) D m1 m2 :: fval (.pay b (c0 + c1 + c2 + c3 + c4)) D m1 m2 :: ws.map (valE (fFs b c0 c1 c2 c3 c4 g D.length) D m1 m2) := rfl
  rw [hlast] at hN
  obtain ⟨y1, y18, hj⟩ := j_end (H := HH (k + 15)) (g := g) b0 b1 b2 b3 b4 hF' (by simp [hw]) hN x0 x1 x2 x3 (some (.lst (D.map dn))) (some (marksV m1 m2)) (some (.lst (es.map exv))) (some (.loc iG)) x9 y10 (some (.str (ordS o))) (some (.inst 338 (σ.length + 2))) (some (.inst 176 (σ.length + 3))) (some (.inst 429 (σ.length + 6))) y16 y17 x18 x19 x20
  refine ⟨y1, y10, some (.inst 338 (σ.length + 2)), some (.inst 176 (σ.length + 3)), some (.inst 429 (σ.length + 6)), some (.loc (σ.length + 8)), y16, y17, y18, ?_⟩
  rw [hes]
  show exL (ex (HH (k + 15)) 63) ordBody [x0, x1, x2, x3, some (.lst (D.map dn)), some (marksV m1 m2), some (.loc iF), some (.lst (es.map exv)), some (.loc iG), x9, x10, some (.str (ordS o)), x12, x13, x14, x15, x16, x17, x18, x19, x20] σ = _
  have s1 : ex (HH (k + 15)) 63 (.asgs true [(.nm 12), (.nm 13), (.nm 14)] (.tup [(.call (.g (.ref 527)) [(.v 4), (.v 5), (.v 6), (.v 11)]), (.call (.g (.ref 176)) [(.v 6), (.k (.str "inet")), (.v 11), (.k (.str "p"))]), (.call (.g (.ref 429)) [])]))
      [x0, x1, x2, x3, some (.lst (D.map dn)), some (marksV m1 m2), some (.loc iF), some (.lst (es.map exv)), some (.loc iG), x9, x10, some (.str (ordS o)), x12, x13, x14, x15, x16, x17, x18, x19, x20] σ =
      some (.next, [x0, x1, x2, x3, some (.lst (D.map dn)), some (marksV m1 m2), some (.loc iF), some (.lst (es.map exv)), some (.loc iG), x9, x10, some (.str (ordS o)), some (.inst 338 (σ.length + 2)), some (.inst 176 (σ.length + 3)), some (.inst 429 (σ.length + 6)), x15, x16, x17, x18, x19, x20],
        σ ++ [.dict pKs (pVs D (σ.length + 1)), .dict mKs (mVs m1 m2), .dict sKs (sVs σ.length iF o), .dict wKs [.loc iF, .str "inet", .str (ordS o), .str "p", .loc (σ.length + 4), .dct [] [], .loc (σ.length + 5), .dct [] [], .dct [] []], .list [], .dict [] [], .dict ["octets"] [.ba (Array.replicate 64 0)]]) := by
    exact walkS (.c _ _ :: .c _ _ :: .c _ _ :: []) fun w => w e1 e2 e3
  refine exL_next s1 ?_
  have s2 : ex (HH (k + 15)) 63 (.asg (.at (.v 14) "octets") (.prim true .bytearray [(.comp .range (.k (dn 64)) [19] (.bin false .Mod (.bin false .Add (.bin false .Mult (.k (dn 7)) (.v 19)) (.k (dn 130))) (.k (dn 256))))]))
      [x0, x1, x2, x3, some (.lst (D.map dn)), some (marksV m1 m2), some (.loc iF), some (.lst (es.map exv)), some (.loc iG), x9, x10, some (.str (ordS o)), some (.inst 338 (σ.length + 2)), some (.inst 176 (σ.length + 3)), some (.inst 429 (σ.length + 6)), x15, x16, x17, x18, x19, x20]
      (σ ++ [.dict pKs (pVs D (σ.length + 1)), .dict mKs (mVs m1 m2), .dict sKs (sVs σ.length iF o), .dict wKs [.loc iF, .str "inet", .str (ordS o), .str "p", .loc (σ.length + 4), .dct [] [], .loc (σ.length + 5), .dct [] [], .dct [] []], .list [], .dict [] [], .dict ["octets"] [.ba (Array.replicate 64 0)]]) =
      some (.next, [x0, x1, x2, x3, some (.lst (D.map dn)), some (marksV m1 m2), some (.loc iF), some (.lst (es.map exv)), some (.loc iG), x9, x10, some (.str (ordS o)), some (.inst 338 (σ.length + 2)), some (.inst 176 (σ.length + 3)), some (.inst 429 (σ.length + 6)), x15, x16, x17, x18, x19, x20],
        σ ++ [.dict pKs (pVs D (σ.length + 1)), .dict mKs (mVs m1 m2), .dict sKs (sVs σ.length iF o), .dict wKs [.loc iF, .str "inet", .str (ordS o), .str "p", .loc (σ.length + 4), .dct [] [], .loc (σ.length + 5), .dct [] [], .dct [] []], .list [], .dict [] [], .dict ["octets"] [.loc (σ.length + 7)], .ba (toB r0)]) := by
    exact at6 (n := 61) rfl fun τ => r0_ev rfl
  refine exL_next s2 ?_
  have s3 : ex (HH (k + 15)) 63 (.asg (.nm 15) (.lst true []))
      [x0, x1, x2, x3, some (.lst (D.map dn)), some (marksV m1 m2), some (.loc iF), some (.lst (es.map exv)), some (.loc iG), x9, x10, some (.str (ordS o)), some (.inst 338 (σ.length + 2)), some (.inst 176 (σ.length + 3)), some (.inst 429 (σ.length + 6)), x15, x16, x17, x18, x19, x20]
      (σ ++ [.dict pKs (pVs D (σ.length + 1)), .dict mKs (mVs m1 m2), .dict sKs (sVs σ.length iF o), .dict wKs [.loc iF, .str "inet", .str (ordS o), .str "p", .loc (σ.length + 4), .dct [] [], .loc (σ.length + 5), .dct [] [], .dct [] []], .list [], .dict [] [], .dict ["octets"] [.loc (σ.length + 7)], .ba (toB r0)]) =
      some (.next, [x0, x1, x2, x3, some (.lst (D.map dn)), some (marksV m1 m2), some (.loc iF), some (.lst (es.map exv)), some (.loc iG), x9, x10, some (.str (ordS o)), some (.inst 338 (σ.length + 2)), some (.inst 176 (σ.length + 3)), some (.inst 429 (σ.length + 6)), some (.loc (σ.length + 8)), x16, x17, x18, x19, x20],
        σ ++ [.dict pKs (pVs D (σ.length + 1)), .dict mKs (mVs m1 m2), .dict sKs (sVs σ.length iF o), .dict wKs [.loc iF, .str "inet", .str (ordS o), .str "p", .loc (σ.length + 4), .dct [] [], .loc (σ.length + 5), .dct [] [], .dct [] []], .list [], .dict [] [], .dict ["octets"] [.loc (σ.length + 7)], .ba (toB r0), .list []]) := by
    rw [ex_asg, ev_lst, if_pos (Nat.le_of_ble_eq_true rfl)]
    simp [fin]
  refine exL_next s3 ?_
  have s4 := ex_forZ (H := HH (k + 15)) (n := 62) (i := 10) (j := 16) (a := .v 8) (b := .v 7) (l := es.map exv) rfl rfl (by simp; lia) hz
  refine exL_next s4 ?_
  exact exL_next hj rfl
end
end
section
noncomputable def pickI (l : List Int) (lo hi st : Option Int) : List Int :=
  (sliceRange (sliceBounds lo hi st l.length).1 (sliceBounds lo hi st l.length).2.1 (sliceBounds lo hi st l.length).2.2).filterMap (l[·]?)
theorem slPick_int (l : List Int) (lo hi st : Option Int) : slPick (l.map .int) lo hi st = (pickI l lo hi st).map .int := by
  unfold slPick pickI
  rw [List.length_map, List.map_filterMap]
  congr 1
  funext i
  simp
theorem pick63 {l : List Int} (h : l.length ≤ 63) : pickI l none (some 63) none = l := by
  have e : sliceBounds none (some 63) none l.length = (0, (l.length : Int), 1) := by
    unfold sliceBounds; simp; lia
  unfold pickI
  rw [e]
  show (sliceRange ((0 : Nat) : Int) l.length 1).filterMap _ = _
  rw [sliceRange_one, range_pick l 0 (l.length - 0) (by lia)]
  simp
theorem intsL_int : ∀ l : List Int, intsL (l.map .int) = some l
  | [] => rfl
  | i :: l => by
    show (intsL (l.map .int)).map (i :: ·) = _
    rw [intsL_int l]; rfl
noncomputable def tt0 : List Nat := [0, 3, 4, 10, 0, 16, 7, 4]
noncomputable def tt1 : List Nat := [0, 2, 1, 0, 0, 5, 1, 0, 0, 12, 0, 1, 1, 0, 0, 12, 1, 0]
noncomputable def tt2 : List Nat := [6, 1, 3, 6, 0, 0, 0, 16715760, 1, 2, 2, 0, 677, 4, 3, 0, 1, 0, 9, 8, 0, 1, 0, 5]
section
variable {k : Nat} {σ : Sg}
theorem sum_int (l : List Int) : primV σ .sum [.lst (l.map .int)] = some (.int l.sum) := by
  show (intsL (l.map .int)).map (fun ns => DV.int ns.sum) = _
  rw [intsL_int]; rfl
theorem h_told : HH (k + 1) 489 [] σ = some (.lst [.lst (tt0.map dn), .lst (tt1.map dn), .lst (tt2.map dn)], σ) := by kernel_rfl
theorem sl_int {l : List Int} (hl : l.length ≤ 2000) (lo hi st : DV) (lo' hi' st' : Option Int) (h1 : partV lo = some lo') (h2 : partV hi = some hi') (h3 : partV st = some st') (h4 : st' ≠ some 0) : sliceV σ (.lst (l.map .int)) lo hi st = some (.lst ((pickI l lo' hi' st').map .int)) := by
  unfold sliceV
  rw [h1, h2, h3]
  simp only [Option.bind_some]
  show (if (l.map DV.int).length ≤ 2 ^ 20 ∧ st' ≠ some 0 then some (DV.lst (slPick (l.map .int) lo' hi' st')) else none) = _
  rw [if_pos ⟨by rw [List.length_map]; exact Nat.le_trans hl (by decide), h4⟩, slPick_int]
noncomputable def t60 : Nat := 10 ^ 60
theorem pow60 : binV .Pow (dn 10) (dn 60) = some (dn t60) := b_pow (a := 10) (b := 60) (by decide) (Nat.le_trans (by decide) (show 100 ≤ big by decide))
theorem mod60 (i : Int) : binV .Mod (.int i) (dn t60) = some (dn (i % t60).toNat) := b_modZ i (by decide)
noncomputable def penX (l : List Int) (j : Nat) : Nat := ((pickI l (some (j : Int)) none (some 3)).sum % t60).toNat
noncomputable def penE : IE := .bin true .Add (.lst false [(.bin false .Mod (.prim false .sum [(.sl (.v 0) (some (.v 19)) none (some (.k (dn 3))))]) (.bin false .Pow (.k (dn 10)) (.k (dn 60))))]) (.v 20)
theorem pen_ev {H : Hd} {ρ : Rho} {l : List Int} {j : Nat} {t : List Nat} (hl : l.length ≤ 100) (ht : t.length ≤ 100) (h0 : ρ.getD 0 none = some (.lst (l.map .int))) (h1 : ρ.getD 19 none = some (dn j)) (h2 : ρ.getD 20 none = some (.lst (t.map dn))) :
    ev H 62 penE ρ σ = some (.loc σ.length, σ ++ [.list ((penX l j :: t).map dn)]) := by
  have hs := sl_int (σ := σ) (l := l) (by lia) (dn j) .none (dn 3) (some (j : Int)) none (some 3) rfl rfl rfl (by decide)
  have hsum := sum_int (σ := σ) (pickI l (some (j : Int)) none (some 3))
  have hm := mod60 (pickI l (some (j : Int)) none (some 3)).sum
  have ha : binV .Add (.lst [dn (penX l j)]) (.lst (t.map dn)) = some (.lst ((penX l j :: t).map dn)) := add_lst (by simp; lia)
  simp only [penE, ev_bin, ev_lst, evL_cons, evL_nil, ev_prim, ev_sl, evO, ev_v, ev_k, h0, h1, h2, Option.bind_some, hs, hsum, fin_false, pow60, hm, List.length_cons, List.length_nil]
  rw [if_pos (show 0 + 1 ≤ big from tup_le (by decide))]
  simp only [Option.bind_some]
  have ha' : binV .Add (.lst [dn ((pickI l (some (j : Int)) none (some 3)).sum % t60).toNat]) (.lst (t.map dn)) = some (.lst ((penX l j :: t).map dn)) := ha
  rw [ha']; rfl
theorem compL_cons {f : List DV → Sg → Option (DV × Sg)} {x : List DV} {r : List (List DV)} {σ₁ σ₂ : Sg} {d : DV} {ds : List DV} (h : f x σ = some (d, σ₁)) (h' : compL f r σ₁ = some (ds, σ₂)) : compL f (x :: r) σ = some (d :: ds, σ₂) := by
  simp [compL, h, h']
theorem ev_comp_of {H : Hd} {n : Nat} {ik : IK} {src elt : IE} {vs : List Nat} {ρ : Rho} {d : DV} {its : List (List DV)} {ds : List DV} {σ₁ σ₂ : Sg} (h1 : ev H n src ρ σ = some (d, σ₁)) (h2 : itemsOf ik d = some its) (h3 : its.length ≤ 1000)
    (h4 : compL (fun x s => (setAll ρ vs x).bind fun ρ' => ev H n elt ρ' s) its σ₁ = some (ds, σ₂)) : ev H (n + 1) (.comp ik src vs elt) ρ σ = some (.lst ds, σ₂) := by
  rw [ev_comp, h1, Option.bind_some, h2, Option.bind_some, if_pos (Nat.le_trans h3 (by decide)), h4]; rfl
end
end
section
section
variable {k : Nat} {σ : Sg}
noncomputable def ρ0 (x0 x2 x3 x4 x5 x6 x7 x8 : Option DV) : Rho := [x0, none, x2, x3, x4, x5, x6, x7, x8, none, none, none, none, none, none, none, none, none, none, none, none]
theorem pens_ev {l : List Int} (hl : l.length ≤ 63) : ev (HH (k + 1)) 63 (.comp .enum (.call (.g (.ref 489)) []) [19, 20] penE) (ρ0 (some (.lst (l.map .int))) none none none none none none none) [] =
    some (.lst [.loc 0, .loc 1, .loc 2], [.list ((penX l 0 :: tt0).map dn), .list ((penX l 1 :: tt1).map dn), .list ((penX l 2 :: tt2).map dn)]) := by
  refine ev_comp_of (σ₁ := []) (d := .lst [.lst (tt0.map dn), .lst (tt1.map dn), .lst (tt2.map dn)]) (its := [[dn 0, .lst (tt0.map dn)], [dn 1, .lst (tt1.map dn)], [dn 2, .lst (tt2.map dn)]]) ?_ rfl (by decide) ?_
  · have e := h_told (k := k) (σ := [])
    simp only [ev_call, ev_g, Option.bind_some, refD_con, evL_nil, e]
  · exact compL_cons (pen_ev (j := 0) (t := tt0) (by lia) (by decide) rfl rfl rfl) (compL_cons (pen_ev (j := 1) (t := tt1) (by lia) (by decide) rfl rfl rfl) (compL_cons (pen_ev (j := 2) (t := tt2) (by lia) (by decide) rfl rfl rfl) rfl))
noncomputable def octN (T q : Nat) : Nat := (53 * q * q + 90 * q + 7 + T / 7 ^ q) % 256
noncomputable def octL (T m : Nat) : List Nat := (List.range m).map (octN T)
noncomputable def octE : IE := .bin false .Mod (.bin false .Add (.bin false .Add (.bin false .Add (.bin false .Mult (.bin false .Mult (.k (dn 53)) (.v 19)) (.v 19)) (.bin false .Mult (.k (dn 90)) (.v 19))) (.k (dn 7))) (.bin false .FloorDiv (.v 3) (.bin false .Pow (.k (dn 7)) (.v 19)))) (.k (dn 256))
theorem oct_elt {H : Hd} {ρ : Rho} {T q : Nat} (hq : q < 30) (h3 : ρ.getD 3 none = some (dn T)) (h19 : ρ.getD 19 none = some (dn q)) : ev H 62 octE ρ σ = some (dn (octN T q), σ) := by
  have m1 := b_mul (lim_small (show 53 ≤ 100000 by decide)) (lim_small (show q ≤ 100000 by lia))
  have m2 := b_mul (lim_small (show 53 * q ≤ 100000 by lia)) (lim_small (show q ≤ 100000 by lia))
  have m3 := b_mul (lim_small (show 90 ≤ 100000 by decide)) (lim_small (show q ≤ 100000 by lia))
  have p := b_pow (a := 7) (b := q) (by decide) (Nat.le_trans (show q ≤ 100 by lia) (show 100 ≤ big by decide))
  have lp : 7 ^ q < lim := lim_of (l := 30) (Nat.lt_of_le_of_lt (Nat.pow_le_pow_right (show 0 < 7 by decide) (show q ≤ 30 by lia)) (by decide)) (by decide)
  have d := b_div (a := T) (Nat.pow_pos (n := q) (show 0 < 7 by decide)) lp
  have md := b_mod (a := 53 * q * q + 90 * q + 7 + T / 7 ^ q) (b := 256) (by decide)
  simp only [octE, ev_bin, ev_k, ev_v, h3, h19, Option.bind_some, m1, m2, m3, p, d, b_add, md, fin_false]
  rfl
theorem oct_comp {H : Hd} {ρ : Rho} {T m : Nat} {σ₁ : Sg} {src : IE} (h : ev H 62 src ρ σ = some (dn m, σ₁)) (hm : m ≤ 30) (h3 : ρ.getD 3 none = some (dn T)) (hl : ρ.length = 21) : ev H 63 (.comp .range src [19] octE) ρ σ = some (.lst ((octL T m).map dn), σ₁) := by
  refine ev_comp_of (ik := .range) (d := dn m) (its := (List.range m).map fun (q : Nat) => [DV.int (q : Int)]) h ?_ (by simp; lia) ?_
  · show (if (0 : Int) ≤ (m : Nat) ∧ ((m : Nat) : Int) ≤ big then _ else _) = _
    have hb : (240 : Nat) ≤ big := by decide
    rw [if_pos ⟨by lia, by lia⟩, Int.toNat_natCast]
  · rw [compL_map (g := fun x => match x with | [.int q] => dn (octN T q.toNat) | _ => .none) fun x hx => ?_]
    · unfold octL
      rw [List.map_map, List.map_map]; rfl
    · obtain ⟨q, hq, rfl⟩ := List.mem_map.mp hx
      have hq' := List.mem_range.mp hq
      simp only [setAll, hl, show 19 < 21 by decide, if_true, Option.bind_some, Int.toNat_natCast]
      refine oct_elt (by lia) ?_ ?_
      · rw [List.getD_eq_getElem?_getD, List.getElem?_set_ne (by decide), ← List.getD_eq_getElem?_getD]; exact h3
      · rw [List.getD_eq_getElem?_getD, List.getElem?_set_self (by lia)]; rfl
theorem oct_len (T m : Nat) : (octL T m).length = m := by simp [octL]
theorem oct_lt (T m : Nat) : ∀ x ∈ octL T m, x < 256 := by
  intro x hx
  obtain ⟨q, _, rfl⟩ := List.mem_map.mp hx
  exact Nat.mod_lt _ (by decide)
theorem three_ev (p : Pen σ 2) : ∃ a b c σ', (∀ e ∈ [a, b, c], e.dep ≤ 3 ∧ e.base ∈ nineN ∧ ExOk e) ∧ Fr [2] σ σ' ∧ ∀ (k : Nat) (ρ : Rho), ρ.getD 2 none = some (.lst [.loc 0, .loc 1, .loc 2]) → ρ.length = 21 → ev (HH (k + 2)) 62 (.comp .range (.k (dn 3)) [19] (.call (.g (.ref 503)) [(.sub (.v 2) (.k (dn 2)))])) ρ σ = some (.lst [exv a, exv b, exv c], σ') := by
  obtain ⟨a, σ1, a1, a2, a3, p1, f1, h1⟩ := h_law_worked p
  obtain ⟨b, σ2, b1, b2, b3, p2, f2, h2⟩ := h_law_worked p1
  obtain ⟨c, σ3, c1, c2, c3, p3, f3, h3⟩ := h_law_worked p2
  refine ⟨a, b, c, σ3, ?_, f1.trans (f2.trans f3), fun k ρ h2' hl => ?_⟩
  · intro e he
    simp only [List.mem_cons, List.not_mem_nil, or_false] at he
    rcases he with rfl | rfl | rfl
    · exact ⟨a1, a2, a3⟩
    · exact ⟨b1, b2, b3⟩
    · exact ⟨c1, c2, c3⟩
  · have call : ∀ (q : Nat) (τ τ' : Sg) (e : Ex), (∀ k, HH (k + 2) 503 [.loc 2] τ = some (exv e, τ')) → (setAll ρ [19] [dn q]).bind (fun ρ' => ev (HH (k + 2)) 61 (.call (.g (.ref 503)) [(.sub (.v 2) (.k (dn 2)))]) ρ' τ) = some (exv e, τ') := fun q τ τ' e he => by
      have g : (ρ.set 19 (some (dn q))).getD 2 none = some (.lst [.loc 0, .loc 1, .loc 2]) := by
        rw [List.getD_eq_getElem?_getD, List.getElem?_set_ne (by decide), ← List.getD_eq_getElem?_getD]; exact h2'
      have s : subV τ (.lst [.loc 0, .loc 1, .loc 2]) (dn 2) = some (.loc 2) := by rw [n_lst (big2 (by decide))]; rfl
      simp only [setAll, hl, show 19 < 21 by decide, if_true, Option.bind_some, refD_con, ev_call, ev_g, evL_cons, evL_nil, ev_sub, ev_v, ev_k, g, s, he]
    exact ev_comp_of (d := dn 3) (its := [[dn 0], [dn 1], [dn 2]]) rfl rfl (by decide) (compL_cons (call 0 _ _ a h1) (compL_cons (call 1 _ _ b h2) (compL_cons (call 2 _ _ c h3) rfl)))
end
end
section
section
variable {k : Nat} {σ : Sg}
noncomputable def regX : IE := .ite (.and (.v 9) (.cmp .NotEq (.v 8) (.lst false []))) (.sub (.v 8) (.neg (.k (dn 1)))) (.v 10)
noncomputable def regBody : List IS := [
    .asgs true [(.nm 9), (.nm 10)] (.tup [(.cmp .Eq (.call (.g (.ref 482)) [(.sub (.v 2) (.k (dn 1))), (.k (dn 2))]) (.k (dn 1))), (.call (.g (.ref 482)) [(.sub (.v 2) (.k (dn 1))), (.k (dn 13))])]),
    .ex (.app (.v 8) regX)]
theorem ne_nil {iG : Nat} {rl : List Nat} (hG : σ[iG]? = some (.list (rl.map dn))) : cmpV σ .NotEq (.loc iG) (.lst []) = some (!decide (rl = [])) := by
  show ((items σ (.loc iG)).bind fun a => (items σ (.lst [])).bind fun b => (intsL a).bind fun as => (intsL b).bind fun bs => some (!decide (as = bs))) = _
  rw [items_loc hG]
  show ((intsL (rl.map dn)).bind fun as => some (!decide (as = []))) = _
  rw [intsL_dn (fun x => x) rl]
  cases rl <;> rfl
theorem last_sub {iG x : Nat} {rl : List Nat} (hG : σ[iG]? = some (.list ((rl ++ [x]).map dn))) : subV σ (.loc iG) (.int (-1)) = some (dn x) := by
  show ((items σ (.loc iG)).bind fun l => nth l (-1)) = _
  rw [items_loc hG, Option.bind_some]
  unfold nth
  rw [if_neg (by decide), if_pos ⟨by simp; lia, by decide⟩]
  have : ((-1 : Int) + (((rl ++ [x]).map dn).length : Nat)).toNat = rl.length := by simp; lia
  rw [this]
  simp
theorem reg_ev {iG r : Nat} {b : Bool} {rl : List Nat} (hG : σ[iG]? = some (.list (rl.map dn))) (hrl : ∀ x ∈ rl, x ≤ 12) (hr : r ≤ 12) :
    ∃ y ≤ 12, ∀ (H : Hd) (ρ : Rho), ρ.getD 8 none = some (.loc iG) → ρ.getD 9 none = some (.bool b) → ρ.getD 10 none = some (dn r) → ev H 61 regX ρ σ = some (dn y, σ) := by
  have hn := ne_nil hG
  have l0 : (0 : Nat) ≤ big := tup_le (by decide)
  cases b with
  | false =>
    refine ⟨r, hr, fun H ρ h8 h9 h10 => ?_⟩
    simp only [regX, ev_ite, ev_and, ev_v, h9, h10, Option.bind_some, asB_bool, Bool.false_eq_true, if_false]
  | true =>
    by_cases he : rl = []
    · refine ⟨r, hr, fun H ρ h8 h9 h10 => ?_⟩
      rw [he] at hn
      replace hn := hn
      simp only [regX, ev_ite, ev_and, ev_v, h8, h9, h10, Option.bind_some, asB_bool, if_true, ev_cmp, ev_lst, List.length_nil, l0, evL_nil, fin_false, hn, decide_true, Bool.not_true, Bool.false_eq_true, if_false]
    · obtain ⟨rl', x, rfl⟩ : ∃ rl' x, rl = rl' ++ [x] := ⟨rl.dropLast, rl.getLast he, (List.dropLast_concat_getLast he).symm⟩
      refine ⟨x, hrl x (by simp), fun H ρ h8 h9 h10 => ?_⟩
      have hl := last_sub hG
      rw [decide_eq_false he] at hn
      simp only [regX, ev_ite, ev_and, ev_v, h8, h9, h10, Option.bind_some, asB_bool, if_true, ev_cmp, ev_lst, List.length_nil, l0, evL_nil, fin_false, hn, Bool.not_false, ev_sub, ev_neg1, hl]
structure RT (σ : Sg) (iG : Nat) (rl : List Nat) (y : Nat) (σ' : Sg) : Prop where
  l : y ≤ 12
  p : Pen σ' 1
  G : σ'[iG]? = some (.list ((rl ++ [y]).map dn))
  f : Fr [1, iG] σ σ'
  h : ∀ (k q : Nat) (x0 x1 x3 x4 x5 x6 x7 x9 x10 : Option DV), ∃ y9 y10, (setAll [x0, x1, some (.lst [.loc 0, .loc 1, .loc 2]), x3, x4, x5, x6, x7, some (.loc iG), x9, x10, none, none, none, none, none, none, none, none, none, none] [1] [dn q]).bind (fun ρ'' => exL (ex (HH (k + 1)) 63) regBody ρ'' σ) =
      some (.next, [x0, some (dn q), some (.lst [.loc 0, .loc 1, .loc 2]), x3, x4, x5, x6, x7, some (.loc iG), y9, y10, none, none, none, none, none, none, none, none, none, none], σ')
theorem reg_turn {iG : Nat} {rl : List Nat} (p : Pen σ 1) (hG : σ[iG]? = some (.list (rl.map dn))) (hne : iG ≠ 1) (hrl : ∀ x ∈ rl, x ≤ 12) (hl : rl.length ≤ 20) :
    ∃ y σ', RT σ iG rl y σ' := by
  obtain ⟨c1, σ1, h1, e1, p1, f1⟩ := draw (m := 2) p (by decide) (lim_small (by decide))
  obtain ⟨c2, σ2, h2, e2, p2, f2⟩ := draw (m := 13) p1 (by decide) (lim_small (by decide))
  have G2 := f2.get (f1.get hG (by simpa using hne)) (by simpa using hne)
  obtain ⟨y, hy, ey⟩ := reg_ev (b := decide (c1 = 1)) G2 hrl (show c2 ≤ 12 by lia)
  have f3 : Fr [iG] σ2 (σ2.set iG (.list (rl.map dn ++ [dn y]))) := Fr.set
  have hlt : iG < σ2.length := (List.getElem?_eq_some_iff.mp G2).1
  refine ⟨y, _, hy, p2.fr f3 (by simpa using Ne.symm hne), by rw [List.getElem?_set_self hlt]; simp, (f1.mono (by simp)).trans ((f2.mono (by simp)).trans (f3.mono (by simp))), fun k q x0 x1 x3 x4 x5 x6 x7 x9 x10 => ⟨some (.bool (decide (c1 = 1))), some (dn c2), ?_⟩⟩
  have s1 : ∀ τ : Sg, subV τ (.lst [.loc 0, .loc 1, .loc 2]) (dn 1) = some (.loc 1) := fun τ => by rw [n_lst (big2 (by decide))]; rfl
  show exL (ex (HH (k + 1)) 63) regBody [x0, some (dn q), some (.lst [.loc 0, .loc 1, .loc 2]), x3, x4, x5, x6, x7, some (.loc iG), x9, x10, none, none, none, none, none, none, none, none, none, none] σ = _
  exact walkL (.v _ :: .c _ _ :: .b _ :: .v _ :: .c _ _ :: .b _ :: .c _ _ :: .c _ _ :: []) fun w => w (s1 _) (e1 _) c_eq (s1 _) (e2 _) (appQ_of G2) (ey _ _ rfl rfl rfl) (appV_of G2 (by simp; lia))
structure RL (iG m i : Nat) (rl : List Nat) (σ : Sg) (rl' : List Nat) (σ' : Sg) : Prop where
  a : (∀ x ∈ rl', x ≤ 12)
  b : rl'.length = rl.length + m
  G : σ'[iG]? = some (.list (rl'.map dn))
  f : Fr [1, iG] σ σ'
  h : ∀ (k : Nat) (x0 x1 x3 x4 x5 x6 x7 x9 x10 : Option DV), ∃ y1 y9 y10, forL (fun x ρ' s => (setAll ρ' [1] x).bind fun ρ'' => exL (ex (HH (k + 1)) 63) regBody ρ'' s) ((List.range' i m).map fun (q : Nat) => [DV.int (q : Int)])
      [x0, x1, some (.lst [.loc 0, .loc 1, .loc 2]), x3, x4, x5, x6, x7, some (.loc iG), x9, x10, none, none, none, none, none, none, none, none, none, none] σ =
      some (.next, [x0, y1, some (.lst [.loc 0, .loc 1, .loc 2]), x3, x4, x5, x6, x7, some (.loc iG), y9, y10, none, none, none, none, none, none, none, none, none, none], σ')
theorem reg_loop {iG : Nat} (hne : iG ≠ 1) : ∀ (m i : Nat) (rl : List Nat) (σ : Sg), Pen σ 1 → σ[iG]? = some (.list (rl.map dn)) → (∀ x ∈ rl, x ≤ 12) → rl.length + m ≤ 20 →
    ∃ (rl' : List Nat) (σ' : Sg), RL iG m i rl σ rl' σ'
  | 0, i, rl, σ, p, hG, h12, hl => ⟨rl, σ, h12, rfl, hG, Fr.refl, fun k x0 x1 x3 x4 x5 x6 x7 x9 x10 => ⟨x1, x9, x10, rfl⟩⟩
  | m + 1, i, rl, σ, p, hG, h12, hl => by
    obtain ⟨y, σ1, hy, p1, G1, f1, h1⟩ := reg_turn p hG hne h12 (by lia)
    obtain ⟨rl', σ', a1, a2, a3, a4, a5⟩ := reg_loop hne m (i + 1) (rl ++ [y]) σ1 p1 G1 (fun x hx => by
      rcases List.mem_append.mp hx with hx | hx
      · exact h12 x hx
      · simp at hx; lia) (by simp; lia)
    refine ⟨rl', σ', a1, by rw [a2]; simp; lia, a3, f1.trans a4, fun k x0 x1 x3 x4 x5 x6 x7 x9 x10 => ?_⟩
    obtain ⟨y9, y10, e1⟩ := h1 k i x0 x1 x3 x4 x5 x6 x7 x9 x10
    obtain ⟨z1, z9, z10, e2⟩ := a5 k x0 (some (dn i)) x3 x4 x5 x6 x7 y9 y10
    refine ⟨z1, z9, z10, ?_⟩
    rw [List.range'_succ, List.map_cons]
    exact (forL_step e1).trans e2
end
end
section
theorem pay_okN {b c : Nat} (h1 : 1 ≤ c) (h2 : c ≤ 17 + 17 + 17 + 17 + 17) : FdK (.pay b c) ∧ (Fd.pay b c).sz ≤ 12 := by
  refine ⟨⟨h1, Nat.le_trans h2 (by decide)⟩, ?_⟩
  rw [sz_pay]
  have := Nat.mod_lt b (show 0 < 8 by decide)
  exact Nat.le_of_lt_succ (Nat.div_lt_of_lt_mul (by lia))
theorem pay_ok {b c : Nat} (h : 1 ≤ c ∧ c ≤ 17) : FdK (.pay b c) ∧ (Fd.pay b c).sz ≤ 12 := pay_okN h.1 (Nat.le_trans h.2 (by decide))
theorem nine_ok {b c0 c1 c2 c3 c4 g n : Nat} (a0 : 1 ≤ c0 ∧ c0 ≤ 17) (a1 : 1 ≤ c1 ∧ c1 ≤ 17) (a2 : 1 ≤ c2 ∧ c2 ≤ 17) (a3 : 1 ≤ c3 ∧ c3 ≤ 17) (a4 : 1 ≤ c4 ∧ c4 ≤ 17) (ag : 2 ≤ g ∧ g ≤ 7) {x : Str} (hx : x ∈ nineN) :
    ∃ f, lookF x fKs (fFs b c0 c1 c2 c3 c4 g n) = some f ∧ FdK f ∧ f.sz ≤ 12 := by
  simp only [nineN, List.mem_cons, List.not_mem_nil, or_false] at hx
  rcases hx with rfl | rfl | rfl | rfl | rfl | rfl | rfl | rfl | rfl
  · exact ⟨_, rfl, pay_ok a0⟩
  · exact ⟨_, rfl, pay_ok a1⟩
  · exact ⟨_, rfl, pay_ok a2⟩
  · exact ⟨_, rfl, pay_ok a3⟩
  · exact ⟨_, rfl, pay_ok a4⟩
  · exact ⟨_, rfl, pay_okN (Nat.le_trans a4.1 (Nat.le_add_left _ _)) (Nat.add_le_add (Nat.add_le_add (Nat.add_le_add (Nat.add_le_add a0.2 a1.2) a2.2) a3.2) a4.2)⟩
  · exact ⟨_, rfl, .inl ⟨rfl, rfl⟩, by decide⟩
  · exact ⟨_, rfl, .inr ⟨rfl, rfl⟩, by decide⟩
  · exact ⟨_, rfl, pay_okN (Nat.le_trans (by decide) ag.1) (Nat.le_trans ag.2 (by decide))⟩
theorem Fls.fr {l : List Nat} {σ σ' : Sg} {iF : Nat} {ks : List Str} {fs : List Fd} (F : Fls σ iF ks fs) (x : Fr l σ σ') (h : iF ∉ l) : Fls σ' iF ks fs := ⟨x.get F.d h⟩
theorem it9 : itemsOf .range (dn 9) = some ((List.range' 0 9).map fun (q : Nat) => [DV.int (q : Int)]) := by kernel_rfl
theorem le9 : ((List.range' 0 9).map fun (q : Nat) => [DV.int (q : Int)]).length ≤ big := Nat.le_of_ble_eq_true (by kernel_rfl)
theorem it2 : itemsOf .seq (.lst [.str "little", .str "big"]) = some [[.str (ordS true)], [.str (ordS false)]] := by kernel_rfl
theorem le2 : ([[.str (ordS true)], [.str (ordS false)]] : List (List DV)).length ≤ big := Nat.le_of_ble_eq_true (by kernel_rfl)
theorem for9 {H : Hd} {ρ ρ' : Rho} {σ σ' : Sg} (e5 : forL (fun x ρ' s => (setAll ρ' [1] x).bind fun ρ'' => exL (ex H 63) regBody ρ'' s) ((List.range' 0 9).map fun (q : Nat) => [DV.int (q : Int)]) ρ σ = some (.next, ρ', σ')) :
    ex H 64 (.for_ [1] .range (.k (dn 9)) regBody) ρ σ = some (.next, ρ', σ') := by
  refine for_of (n := 63) (σ₁ := σ) (d := dn 9) (its := (List.range' 0 9).map fun (q : Nat) => [DV.int (q : Int)]) ?_ ?_ ?_ ?_
  · exact ev_k ..
  · exact it9
  · exact le9
  · exact e5
theorem for10 {H : Hd} {ρ ρ₁ ρ' : Rho} {σ σ₁ σ' : Sg} (e6 : (setAll ρ [11] [.str (ordS true)]).bind (fun ρ'' => exL (ex H 63) ordBody ρ'' σ) = some (.next, ρ₁, σ₁)) (e7 : (setAll ρ₁ [11] [.str (ordS false)]).bind (fun ρ'' => exL (ex H 63) ordBody ρ'' σ₁) = some (.next, ρ', σ')) :
    ex H 64 (.for_ [11] .seq (.lst false [(.k (.str "little")), (.k (.str "big"))]) ordBody) ρ σ = some (.next, ρ', σ') := by
  refine for_of (n := 63) (σ₁ := σ) (d := .lst [.str "little", .str "big"]) (its := [[.str (ordS true)], [.str (ordS false)]]) ?_ ?_ ?_ ?_
  · exact rfl
  · exact it2
  · exact le2
  · exact (forL_step e6).trans ((forL_step e7).trans rfl)
noncomputable def lawPens (l : List Int) : Sg := [.list ((penX l 0 :: tt0).map dn), .list ((penX l 1 :: tt1).map dn), .list ((penX l 2 :: tt2).map dn)]
set_option maxHeartbeats 2000000 in
theorem law_true (l : List Int) (hl : l.length ≤ 63) : ∃ σ', HH 24 537 [.lst (l.map .int)] [] = some (.bool true, σ') := by
  have hP0 : Pen (lawPens l) 0 := ⟨penX l 0, tt0, rfl, by decide⟩
  have hP1 : Pen (lawPens l) 1 := ⟨penX l 1, tt1, rfl, by decide⟩
  have hP2 : Pen (lawPens l) 2 := ⟨penX l 2, tt2, rfl, by decide⟩
  have hlen0 : (lawPens l).length = 3 := rfl
  have e0 := pens_ev (k := 22) hl
  have e0 : ev (HH 23) 63 (.comp .enum (.call (.g (.ref 489)) []) [19, 20] penE) (ρ0 (some (.lst (l.map .int))) none none none none none none none) [] = some (.lst [.loc 0, .loc 1, .loc 2], lawPens l) := e0
  generalize lawPens l = σ0 at *
  generalize hT : (l.sum % t60).toNat = T
  obtain ⟨d0, σ1, hd0, e1, p1, f1⟩ := draw (m := 9) hP0 (by decide) (lim_small (by decide))
  have hDl := oct_len T (12 + d0)
  have hDb := oct_lt T (12 + d0)
  have hoct : ∀ ρ : Rho, ρ.getD 2 none = some (.lst [.loc 0, .loc 1, .loc 2]) → ρ.getD 3 none = some (dn T) → ρ.length = 21 → ev (HH 23) 63 (.comp .range (.bin false .Add (.k (dn 12)) (.call (.g (.ref 482)) [(.sub (.v 2) (.k (dn 0))), (.k (dn 9))])) [19] octE) ρ σ0 = some (.lst ((octL T (12 + d0)).map dn), σ1) := fun ρ h2 h3 hr => by
    refine oct_comp ?_ (by lia) h3 hr
    have s : subV σ0 (.lst [.loc 0, .loc 1, .loc 2]) (dn 0) = some (.loc 0) := by rw [n_lst (big2 (by decide))]; rfl
    simp only [ev_bin, ev_k, ev_call, ev_g, refD_con, evL_cons, evL_nil, ev_sub, ev_v, h2, Option.bind_some, s, e1, b_add, fin_false]
  generalize octL T (12 + d0) = D at *
  generalize hm1 : (317760772 + T) % 2 ^ 32 = m1
  generalize hm2 : (280 + T) % 2 ^ 16 = m2
  have q1 : m1 < 2 ^ 32 := by lia
  have q2 : m2 < 2 ^ 16 := by lia
  obtain ⟨b, c0, c1, c2, c3, c4, g, σ2, a0, a1, a2, a3, a4, ag, e2, p2, F2, f2⟩ := h_law_fields (D := D) p1 (by lia) (by lia)
  have hP2' : Pen σ2 2 := (hP2.fr f1 (by simp)).fr f2 (by simp)
  obtain ⟨wa, wb, wc, σ3, hw, f3, e3⟩ := three_ev hP2'
  have l1 : 3 ≤ σ1.length := Nat.le_trans (by lia) f1.1
  have F3 := F2.fr f3 (by simp; lia)
  have hP1' : Pen σ3 1 := ((hP1.fr f1 (by simp)).fr f2 (by simp)).fr f3 (by simp)
  have l2 : σ1.length < σ2.length := (List.getElem?_eq_some_iff.mp F2.d).1
  have l3 : σ2.length ≤ σ3.length := f3.1
  generalize hiF : σ1.length = iF at *
  have f4 : Fr [] σ3 (σ3 ++ [.list []]) := Fr.app
  have G4 : (σ3 ++ [AO.list []])[σ3.length]? = some (.list (([] : List Nat).map dn)) := by simp
  obtain ⟨rl, σ5, hrl, hrll, G5, f5, e5⟩ := reg_loop (iG := σ3.length) (by lia) 9 0 [] (σ3 ++ [.list []]) (hP1'.fr f4 (by simp)) G4 (fun x hx => by cases hx) (by decide)
  have F5 := (F3.fr f4 (by simp)).fr f5 (by simp; lia)
  have hE : ∀ e ∈ [Ex.fld "f0", .fld "f1", .fld "f2", .fld "f3", .fld "f4", .fld "all"] ++ [wa, wb, wc], ∃ f, EOk fKs (fFs b c0 c1 c2 c3 c4 g D.length) e f := fun e he => by
    have fld : ∀ x ∈ nineN, ∃ f, EOk fKs (fFs b c0 c1 c2 c3 c4 g D.length) (.fld x) f := fun x hx => by
      obtain ⟨f, h1, h2, h3⟩ := nine_ok (b := b) (n := D.length) a0 a1 a2 a3 a4 ag hx
      exact ⟨f, by simp [Ex.dep], trivial, h1, h2, h3⟩
    rcases List.mem_append.mp he with he | he
    · obtain ⟨x, hx, rfl⟩ := List.mem_map.mp (show e ∈ (["f0", "f1", "f2", "f3", "f4", "all"] : List Str).map Ex.fld from he)
      exact fld x (List.mem_of_mem_take (i := 6) (l := nineN) hx)
    · obtain ⟨h1, h2, h3⟩ := hw e he
      obtain ⟨f, h4, h5, h6⟩ := nine_ok (b := b) (n := D.length) a0 a1 a2 a3 a4 ag h2
      exact ⟨f, h1, h3, h4, h5, h6⟩
  obtain ⟨σ6, f6, e6⟩ := ord_turn (k := 8) (o := true) a0.2 a1.2 a2.2 a3.2 a4.2 F5 G5 hrl (by simpa using hrll) hDb (by lia) q1 q2 (ws := [wa, wb, wc]) rfl hE
  obtain ⟨σ7, f7, e7⟩ := ord_turn (k := 8) (o := false) a0.2 a1.2 a2.2 a3.2 a4.2 (F5.fr f6 (by simp)) (f6.get G5 (by simp)) hrl (by simpa using hrll) hDb (by lia) q1 q2 (ws := [wa, wb, wc]) rfl hE
  obtain ⟨y1, y9, y10, e5⟩ := e5 22 (some (.lst (l.map .int))) none (some (dn T)) (some (.lst (D.map dn))) (some (marksV m1 m2)) (some (.loc iF)) (some (.lst (([Ex.fld "f0", .fld "f1", .fld "f2", .fld "f3", .fld "f4", .fld "all"] ++ [wa, wb, wc]).map exv))) none none
  obtain ⟨z1, z10, z12, z13, z14, z15, z16, z17, z18, e6⟩ := e6 (some (.lst (l.map .int))) y1 (some (.lst [.loc 0, .loc 1, .loc 2])) (some (dn T)) y9 y10 none none none none none none none none none none
  obtain ⟨u1, u10, u12, u13, u14, u15, u16, u17, u18, e7⟩ := e7 (some (.lst (l.map .int))) z1 (some (.lst [.loc 0, .loc 1, .loc 2])) (some (dn T)) y9 z10 (some (.str (ordS true))) z12 z13 z14 z15 z16 z17 z18 none none
  have sub0' : ∀ τ : Sg, subV τ (.lst [.loc 0, .loc 1, .loc 2]) (dn 0) = some (.loc 0) := fun τ => by rw [n_lst (big2 (by decide))]; rfl
  have hsl := sl_int (σ := []) (l := l) (by lia) .none (dn 63) .none none (some 63) none rfl rfl rfl (by decide)
  rw [pick63 hl] at hsl
  have hsum := sum_int (σ := σ0) l
  have h60 := mod60 l.sum
  rw [hT] at h60
  have hmarks : ∀ ρ : Rho, ρ.getD 3 none = some (dn T) → ev (HH 23) 63 (.dct false ["mark", "iiftype"] [(.bin false .Mod (.bin false .Add (.k (dn 317760772)) (.v 3)) (.bin false .Pow (.k (dn 2)) (.k (dn 32)))), (.bin false .Mod (.bin false .Add (.k (dn 280)) (.v 3)) (.bin false .Pow (.k (dn 2)) (.k (dn 16))))]) ρ σ1 = some (marksV m1 m2, σ1) := fun ρ h3 => by
    have p1 := b_pow (a := 2) (b := 32) (by decide) (Nat.le_trans (by decide) (show 100 ≤ big by decide))
    have p2 := b_pow (a := 2) (b := 16) (by decide) (Nat.le_trans (by decide) (show 100 ≤ big by decide))
    have r1 := b_mod (a := 317760772 + T) (b := 2 ^ 32) (by decide)
    have r2 := b_mod (a := 280 + T) (b := 2 ^ 16) (by decide)
    rw [hm1] at r1
    rw [hm2] at r2
    rw [ev_dct, if_pos ⟨by decide, rfl, by decide⟩]
    simp only [evL_cons, evL_nil, ev_bin, ev_v, ev_k, h3, Option.bind_some, b_add, p1, p2, r1, r2, fin_false]
    rfl
  have h7 : ev (HH 23) 63 (.comp .seq (.lst false [(.k (.str "f0")), (.k (.str "f1")), (.k (.str "f2")), (.k (.str "f3")), (.k (.str "f4")), (.k (.str "all"))]) [19] (.tup [(.k (.str "field")), (.v 19)])) [some (.lst (l.map .int)), none, some (.lst [.loc 0, .loc 1, .loc 2]), some (dn T), some (.lst (D.map dn)), some (marksV m1 m2), some (.loc iF), none, none, none, none, none, none, none, none, none, none, none, none, none, none] σ2 = some (.lst ([Ex.fld "f0", .fld "f1", .fld "f2", .fld "f3", .fld "f4", .fld "all"].map exv), σ2) := by kernel_rfl
  have ha := add_lst (x := [Ex.fld "f0", .fld "f1", .fld "f2", .fld "f3", .fld "f4", .fld "all"].map exv) (y := [exv wa, exv wb, exv wc]) (Nat.le_of_ble_eq_true rfl)
  refine ⟨σ7, ?_⟩
  rw [h537]
  exact walk (.v _ :: .c _ _ :: .v _ :: .v _ :: .v _ :: .c _ _ :: .c _ _ :: .v _ :: .c _ _ :: .c _ _ :: .c _ _ :: .v _ :: .s _ _ _ :: .s _ _ _ :: []) fun w =>
    w hsl e0 hsum pow60 h60 (hoct _ rfl rfl rfl) (hmarks _ rfl) (sub0' _) (e2 21) h7 (e3 21 _ rfl rfl) ha (for9 e5) (for10 e6 e7)
end
end Mine

theorem PySem.Challenge.cw_pq1096_01_holds : PySem.Challenge.rw_pq1096_01.Holds := by
  exact Mine.top Mine.law_true
