import PyProof.Rows.All
import Wide.All
import OpenK.AllK
import Wide.FinOn
import PySem.Challenge.RW_no0068_01
set_option Elab.async false
set_option maxRecDepth 100000
set_option linter.unusedVariables false
set_option linter.unusedSimpArgs false

namespace Mine

section
open PySem PySem.W PySem.Calls PyProof.Rows

/-- plain data -/
inductive D where
  | none
  | bool (b : Bool)
  | int (i : Int)
  | str (s : PySem.Str)
  | bytes (b : List UInt8)
  | adr (a : Addr)
  | typ (n : String)
  | blt (n : String)
  | fn (f : FuncData)
  | tup (l : List D)
  | lst (l : List D)
  | dct (l : List (List UInt8 × D))
  | raw (P : Heap → Prop)
  | bx (l : List D)
  | rng (n : Nat)

/-- what is fixed in a proof: the program, the world, what holds of the frozen heap -/
structure Cx where
  prog : Program
  w : World
  wd : Heap → Prop
  up : ∀ {h h' : Heap}, h.StaysIn h' → wd h → wd h'
  mg : PySem.Str → Option Value
  mb : PySem.Str → Option Value
  glob : ∀ {h}, wd h → h.Ns mainGlobals mg
  bltn : ∀ {h}, wd h → h.Ns builtinsNs mb
  nolim : ∀ {h}, wd h → h.NoLimit
  mods : ∀ {h}, wd h → ∃ b o, sysModules < b ∧ h.get? b = some o
  C : Addr

noncomputable abbrev Cx.M (c : Cx) : Model := model c.prog c.w

mutual
inductive Rd (c : Cx) (g : Heap) : Value → D → Prop
  | none : Rd c g .none .none
  | bool (b : Bool) : Rd c g (.bool b) (.bool b)
  | int (i : Int) (t : Tok) : Rd c g (.int i t) (.int i)
  | str (x : PySem.Str) (t : Tok) : Rd c g (.str x t) (.str x)
  | bytes (b : List UInt8) (t : Tok) : Rd c g (.bytes b.toArray t) (.bytes b)
  | adr (a : Addr) : Rd c g (.ref a) (.adr a)
  | typ (n : String) : Rd c g (.type n) (.typ n)
  | blt (n : String) : Rd c g (.builtin n) (.blt n)
  | fn {a : Addr} {o : Obj} {f : FuncData} : g.get? a = some o → o.data = .func f → Rd c g (.ref a) (.fn f)
  | tup {a : Addr} {vs : List Value} {ds : List D} : g.IsTuple a vs.toArray → RdAll c g vs ds → Rd c g (.ref a) (.tup ds)
  | lst {a : Addr} {vs : List Value} {ds : List D} : g.IsList a vs.toArray → RdAll c g vs ds → Rd c g (.ref a) (.lst ds)
  | dct {a : Addr} {kvs : List (List UInt8 × Value)} {ds : List (List UInt8 × D)} : g.DictOf (bytesKind c.prog c.w) a kvs → RdKv c g kvs ds → (a == sysModules) = false → Rd c g (.ref a) (.dct ds)
  | rng {a : Addr} {n : Nat} {t u v : Tok} : IsRange g a 0 n 1 t u v → Rd c g (.ref a) (.rng n)
inductive RdAll (c : Cx) (g : Heap) : List Value → List D → Prop
  | nil : RdAll c g [] []
  | cons {v : Value} {vs : List Value} {d : D} {ds : List D} : Rd c g v d → RdAll c g vs ds → RdAll c g (v :: vs) (d :: ds)
inductive RdKv (c : Cx) (g : Heap) : List (List UInt8 × Value) → List (List UInt8 × D) → Prop
  | nil : RdKv c g [] []
  | cons {k : List UInt8} {v : Value} {vs : List (List UInt8 × Value)} {d : D} {ds : List (List UInt8 × D)} : Rd c g v d → RdKv c g vs ds → RdKv c g ((k, v) :: vs) ((k, d) :: ds)
end

/-- what a value is, read as a plain one -/
noncomputable def RdInv (c : Cx) (g : Heap) (v : Value) : D → Prop
  | .none => v = .none
  | .bool b => v = .bool b
  | .int i => ∃ t, v = .int i t
  | .str x => ∃ t, v = .str x t
  | .bytes b => ∃ t, v = .bytes b.toArray t
  | .adr a => v = .ref a
  | .typ n => v = .type n
  | .blt n => v = .builtin n
  | .fn f => ∃ a o, v = .ref a ∧ g.get? a = some o ∧ o.data = .func f
  | .tup ds => ∃ a vs, v = .ref a ∧ g.IsTuple a vs.toArray ∧ RdAll c g vs ds
  | .lst ds => ∃ a vs, v = .ref a ∧ g.IsList a vs.toArray ∧ RdAll c g vs ds
  | .dct ds => ∃ a kvs, v = .ref a ∧ g.DictOf (bytesKind c.prog c.w) a kvs ∧ RdKv c g kvs ds ∧ (a == sysModules) = false
  | .rng n => ∃ a t u w, v = .ref a ∧ IsRange g a 0 n 1 t u w
  | _ => False
theorem Rd.inv {c : Cx} {g : Heap} {v : Value} {d : D} (h : Rd c g v d) : RdInv c g v d := by
  cases h with
  | none | bool | adr | typ | blt => exact rfl
  | int _ t | str _ t | bytes _ t => exact ⟨t, rfl⟩
  | fn h1 h2 => exact ⟨_, _, rfl, h1, h2⟩
  | tup h1 h2 | lst h1 h2 => exact ⟨_, _, rfl, h1, h2⟩
  | dct h1 h2 h3 => exact ⟨_, _, rfl, h1, h2, h3⟩
  | rng h => exact ⟨_, _, _, _, rfl, h⟩
noncomputable def RdAllInv (c : Cx) (g : Heap) (vs : List Value) : List D → Prop
  | [] => vs = []
  | d :: ds => ∃ v ws, vs = v :: ws ∧ Rd c g v d ∧ RdAll c g ws ds
theorem RdAll.inv {c : Cx} {g : Heap} {vs : List Value} {ds : List D} (h : RdAll c g vs ds) : RdAllInv c g vs ds := by
  cases h with
  | nil => exact rfl
  | cons h r => exact ⟨_, _, rfl, h, r⟩

noncomputable def RdKvInv (c : Cx) (g : Heap) (vs : List (List UInt8 × Value)) : List (List UInt8 × D) → Prop
  | [] => vs = []
  | (k, d) :: ds => ∃ v ws, vs = (k, v) :: ws ∧ Rd c g v d ∧ RdKv c g ws ds
theorem RdKv.inv {c : Cx} {g : Heap} {vs : List (List UInt8 × Value)} {ds : List (List UInt8 × D)} (h : RdKv c g vs ds) : RdKvInv c g vs ds := by
  cases h with
  | nil => exact rfl
  | cons h r => exact ⟨_, _, rfl, h, r⟩

theorem isList_up {g g' : Heap} {a : Addr} {vs : Array Value} (k : g.StaysIn g') (x : g.IsList a vs) : g'.IsList a vs := let ⟨o, ho, r⟩ := x; ⟨o, k _ _ ho, r⟩
theorem isTuple_up {g g' : Heap} {a : Addr} {vs : Array Value} (k : g.StaysIn g') (x : g.IsTuple a vs) : g'.IsTuple a vs := let ⟨o, ho, r⟩ := x; ⟨o, k _ _ ho, r⟩

mutual
theorem Rd.up {c : Cx} {g g' : Heap} (k : g.StaysIn g') : ∀ {v : Value} {d : D}, Rd c g v d → Rd c g' v d
  | _, _, .none => .none
  | _, _, .bool b => .bool b
  | _, _, .int i t => .int i t
  | _, _, .str x t => .str x t
  | _, _, .bytes b t => .bytes b t
  | _, _, .adr a => .adr a
  | _, _, .typ a => .typ a
  | _, _, .blt a => .blt a
  | _, _, .fn h e => .fn (k _ _ h) e
  | _, _, .tup h r => .tup (isTuple_up k h) (RdAll.up k r)
  | _, _, .lst h r => .lst (isList_up k h) (RdAll.up k r)
  | _, _, .dct h r e => .dct (h.keep k) (RdKv.up k r) e
  | _, _, .rng h => .rng (k _ _ h)
theorem RdAll.up {c : Cx} {g g' : Heap} (k : g.StaysIn g') : ∀ {vs : List Value} {ds : List D}, RdAll c g vs ds → RdAll c g' vs ds
  | _, _, .nil => .nil
  | _, _, .cons h r => .cons (Rd.up k h) (RdAll.up k r)
theorem RdKv.up {c : Cx} {g g' : Heap} (k : g.StaysIn g') : ∀ {vs : List (List UInt8 × Value)} {ds : List (List UInt8 × D)}, RdKv c g vs ds → RdKv c g' vs ds
  | _, _, .nil => .nil
  | _, _, .cons h r => .cons (Rd.up k h) (RdKv.up k r)
end

theorem RdAll.length {c : Cx} {g : Heap} {vs : List Value} {ds : List D} (h : RdAll c g vs ds) : vs.length = ds.length := by
  induction ds generalizing vs with
  | nil => cases h; rfl
  | cons d ds ih => cases h with | cons h r => simp [ih r]
theorem RdAll.get {c : Cx} {g : Heap} {vs : List Value} {ds : List D} (h : RdAll c g vs ds) {i : Nat} {d : D} (e : ds[i]? = some d) : ∃ v, vs[i]? = some v ∧ Rd c g v d := by
  induction ds generalizing vs i with
  | nil => simp at e
  | cons x ds ih =>
    cases h with
    | cons h r =>
      cases i with
      | zero => simp at e; subst e; exact ⟨_, rfl, h⟩
      | succ i => simp at e; obtain ⟨v, a, b⟩ := ih r e; exact ⟨v, by simpa using a, b⟩
theorem RdAll.append {c : Cx} {g : Heap} {vs ws : List Value} {ds es : List D} (h : RdAll c g vs ds) (h' : RdAll c g ws es) : RdAll c g (vs ++ ws) (ds ++ es) := by
  induction ds generalizing vs with
  | nil => cases h; exact h'
  | cons d ds ih => cases h with | cons h r => exact .cons h (ih r)
theorem RdAll.one {c : Cx} {g : Heap} {v : Value} {d : D} (h : Rd c g v d) : RdAll c g [v] [d] := .cons h .nil
theorem RdAll.take {c : Cx} {g : Heap} {vs : List Value} {ds : List D} (h : RdAll c g vs ds) (n : Nat) : RdAll c g (vs.take n) (ds.take n) := by
  induction ds generalizing vs n with
  | nil => cases h; simp; exact .nil
  | cons d ds ih =>
    cases h with
    | cons h r =>
      cases n with
      | zero => simp; exact .nil
      | succ n => simp; exact .cons h (ih r n)
theorem RdAll.drop {c : Cx} {g : Heap} {vs : List Value} {ds : List D} (h : RdAll c g vs ds) (n : Nat) : RdAll c g (vs.drop n) (ds.drop n) := by
  induction ds generalizing vs n with
  | nil => cases h; simp; exact .nil
  | cons d ds ih =>
    cases h with
    | cons h r =>
      cases n with
      | zero => simp; exact .cons h r
      | succ n => simp; exact ih r n

/-- the frozen part, kept of a heap by a test on addresses -/
noncomputable def keepBy (h : Heap) (p : Addr → Bool) : Heap := hideAll h ((List.range h.objs.size).filter fun a => !p a)
theorem keepBy_of {h : Heap} {p : Addr → Bool} {a : Addr} {o : Obj} (e : h.get? a = some o) (hp : p a = true) : (keepBy h p).get? a = some o :=
  hideAll_get _ e (by simp [hp])
theorem of_keepBy {h : Heap} {p : Addr → Bool} {a : Addr} {o : Obj} (e : (keepBy h p).get? a = some o) : h.get? a = some o ∧ p a = true := by
  have e1 := of_hideAll _ e
  refine ⟨e1, ?_⟩
  cases hp : p a with
  | true => rfl
  | false =>
    have : (keepBy h p).get? a = none := hideAll_none _ (by simp [hp]; exact Heap.lt_size e1)
    rw [this] at e; cases e
theorem keepBy_none {h : Heap} {p : Addr → Bool} {a : Addr} (hp : p a = false) : (keepBy h p).get? a = none := by
  cases e : (keepBy h p).get? a with
  | none => rfl
  | some o => have := (of_keepBy e).2; rw [hp] at this; cases this

/-- g with the addresses as, as they stand in h -/
noncomputable def addTo (g h : Heap) (as : List Addr) : Heap := keepBy h fun a => (g.get? a).isSome || as.contains a
theorem addTo_up {g h : Heap} (k : g.StaysIn h) (as : List Addr) : g.StaysIn (addTo g h as) := fun b o e => keepBy_of (k b o e) (by simp [e])
theorem addTo_in (g h : Heap) (as : List Addr) : (addTo g h as).StaysIn h := fun _ _ e => (of_keepBy e).1
theorem addTo_new {g h : Heap} {as : List Addr} {a : Addr} {o : Obj} (e : h.get? a = some o) (ha : a ∈ as) : (addTo g h as).get? a = some o := keepBy_of e (by simp [ha])
theorem addTo_old {g h : Heap} (k : g.StaysIn h) {as : List Addr} {b : Addr} (hb : b ∉ as) : (addTo g h as).get? b = g.get? b := by
  cases e : g.get? b with
  | some o => exact addTo_up k as b o e
  | none => exact keepBy_none (by simp [e, hb])

/-- from (g, s) to (g', s'): what was frozen stays, what was not is not; all else stays, but what is in B; a frame (F) keeps its names -/
structure Mv (F B : List Addr) (g : Heap) (s : Shared) (g' : Heap) (s' : Shared) : Prop where
  gg : g.StaysIn g'
  gs : g'.StaysIn s'.heap
  old : ∀ b o, s.heap.get? b = some o → g'.get? b = g.get? b
  there : ∀ b o, s.heap.get? b = some o → ∃ o', s'.heap.get? b = some o'
  kept : ∀ b o, b ∉ B → b ∉ F → s.heap.get? b = some o → s'.heap.get? b = some o
  keptF : ∀ b m, b ∉ B → b ∈ F → s.heap.Ns b m → s'.heap.Ns b m
  gens : s'.gens = s.gens
  os : s'.os = s.os

theorem Mv.refl {F B : List Addr} {g : Heap} {s : Shared} (k : g.StaysIn s.heap) : Mv F B g s g s :=
  ⟨fun _ _ e => e, k, fun _ _ _ => rfl, fun _ o e => ⟨o, e⟩, fun _ o _ _ e => e, fun _ _ _ _ e => e, rfl, rfl⟩
theorem Mv.trans {F B : List Addr} {g g₁ g₂ : Heap} {s s₁ s₂ : Shared} (x : Mv F B g s g₁ s₁) (y : Mv F B g₁ s₁ g₂ s₂) : Mv F B g s g₂ s₂ :=
  ⟨fun b o e => y.gg b o (x.gg b o e), y.gs, fun b o e => let ⟨o', e'⟩ := x.there b o e; (y.old b o' e').trans (x.old b o e), fun b o e => let ⟨o', e'⟩ := x.there b o e; y.there b o' e',
    fun b o hB hF e => y.kept b o hB hF (x.kept b o hB hF e), fun b m hB hF e => y.keptF b m hB hF (x.keptF b m hB hF e), y.gens.trans x.gens, y.os.trans x.os⟩
/-- the list B may be exchanged for another, F for a shorter one, if what is left out is not in the heap at the start -/
theorem Mv.mono {F B F' B' : List Addr} {g g₁ : Heap} {s s₁ : Shared} (x : Mv F B g s g₁ s₁) (hB : ∀ b ∈ B, b ∈ B' ∨ s.heap.get? b = none) (hF : ∀ b ∈ F, b ∈ F' ∨ s.heap.get? b = none) (hF' : ∀ b ∈ F', b ∈ F) : Mv F' B' g s g₁ s₁ :=
  ⟨x.gg, x.gs, x.old, x.there, fun b o hb hf e => x.kept b o (fun m => (hB b m).elim hb fun q => by rw [q] at e; cases e) (fun m => (hF b m).elim hf fun q => by rw [q] at e; cases e) e,
    fun b m hb hf e => x.keptF b m (fun q => (hB b q).elim hb fun q => by obtain ⟨o, _, _, e, _⟩ := e; rw [q] at e; cases e) (hF' b hf) e, x.gens, x.os⟩

/-- a step that keeps all of the heap and freezes what as names -/
theorem Mv.ext {F B : List Addr} {g : Heap} {s s' : Shared} (k : g.StaysIn s.heap) (hk : ∀ b o, s.heap.get? b = some o → s'.heap.get? b = some o) (as : List Addr)
    (ha : ∀ a ∈ as, s.heap.get? a = none) (hg : s'.gens = s.gens := by rfl) (ho : s'.os = s.os := by rfl) : Mv F B g s (addTo g s'.heap as) s' := by
  have k' : g.StaysIn s'.heap := fun b o e => hk b o (k b o e)
  exact ⟨addTo_up k' as, addTo_in _ _ _, fun b o hb => addTo_old k' fun hm => (by rw [ha b hm] at hb; cases hb), fun b o e => ⟨o, hk b o e⟩, fun b o _ _ e => hk b o e, fun b m _ _ e => e.keeps hk, hg, ho⟩
theorem Mv.same {F B : List Addr} {g : Heap} {s s' : Shared} (k : g.StaysIn s.heap) (hk : ∀ b o, s.heap.get? b = some o → s'.heap.get? b = some o)
    (hg : s'.gens = s.gens := by rfl) (ho : s'.os = s.os := by rfl) : Mv F B g s g s' :=
  ⟨fun _ _ e => e, fun b o e => hk b o (k b o e), fun _ _ _ => rfl, fun b o e => ⟨o, hk b o e⟩, fun b o _ _ e => hk b o e, fun b m _ _ e => e.keeps hk, hg, ho⟩
theorem Mv.toks {F B : List Addr} {g : Heap} {s : Shared} (k : g.StaysIn s.heap) (n : Nat) : Mv F B g s g { s with toks := n } := Mv.same k (fun _ _ e => e)

noncomputable abbrev Own := List (Addr × D)

/-- a thing that is owned: it stands in the heap, not in the frozen part; what it holds is frozen -/
inductive OwnAt (c : Cx) (g h : Heap) (a : Addr) : D → Prop
  | lst {vs : List Value} {ds : List D} : h.PlainList a vs.toArray → RdAll c g vs ds → OwnAt c g h a (.lst ds)
  | dct {kvs : List (List UInt8 × Value)} {ds : List (List UInt8 × D)} : h.DictOf (bytesKind c.prog c.w) a kvs → RdKv c g kvs ds → (a == sysModules) = false → OwnAt c g h a (.dct ds)
  | bx {vs : List Value} {ds : List D} : h.IsList a vs.toArray → RdAll c g vs ds → OwnAt c g h a (.bx ds)
  | raw {P : Heap → Prop} : (∃ o, h.get? a = some o) → (∀ h', g.StaysIn h' → (∀ o, h.get? a = some o → h'.get? a = some o) → P h') → OwnAt c g h a (.raw P)
/-- what is owned, read as a plain thing -/
noncomputable def OwnInv (c : Cx) (g h : Heap) (a : Addr) : D → Prop
  | .lst ds => ∃ vs, h.PlainList a vs.toArray ∧ RdAll c g vs ds
  | .dct ds => ∃ kvs, h.DictOf (bytesKind c.prog c.w) a kvs ∧ RdKv c g kvs ds ∧ (a == sysModules) = false
  | .bx ds => ∃ vs, h.IsList a vs.toArray ∧ RdAll c g vs ds
  | .raw P => (∃ o, h.get? a = some o) ∧ ∀ h', g.StaysIn h' → (∀ o, h.get? a = some o → h'.get? a = some o) → P h'
  | _ => False
theorem OwnAt.inv {c : Cx} {g h : Heap} {a : Addr} {d : D} (x : OwnAt c g h a d) : OwnInv c g h a d := by
  cases x with
  | lst h r | bx h r => exact ⟨_, h, r⟩
  | dct h r n => exact ⟨_, h, r, n⟩
  | raw h q => exact ⟨h, q⟩
theorem OwnAt.there {c : Cx} {g h : Heap} {a : Addr} {d : D} (x : OwnAt c g h a d) : ∃ o, h.get? a = some o := by
  cases x with
  | lst h _ => obtain ⟨n, e⟩ := h; exact ⟨_, e⟩
  | dct h _ _ => obtain ⟨o, es, ep, e, _⟩ := h; exact ⟨o, e⟩
  | raw h _ => exact h
  | bx h _ => obtain ⟨o, e, _⟩ := h; exact ⟨o, e⟩
theorem OwnAt.move {c : Cx} {g h g' h' : Heap} {a : Addr} {d : D} (x : OwnAt c g h a d) (k : g.StaysIn g') (e : ∀ o, h.get? a = some o → h'.get? a = some o) : OwnAt c g' h' a d := by
  cases x with
  | lst h r => exact .lst (h.at e) (r.up k)
  | dct h r n =>
    obtain ⟨o, es, ep, e', q⟩ := h
    exact .dct ⟨o, es, ep, e _ e', q⟩ (r.up k) n
  | bx h r => obtain ⟨o, e', q⟩ := h; exact .bx ⟨o, e _ e', q⟩ (r.up k)
  | raw h q => exact .raw (let ⟨o, e'⟩ := h; ⟨o, e _ e'⟩) fun h'' k' e' => q h'' (fun b o x => k' b o (k b o x)) fun o x => e' o (e o x)

/-- the frames of a row of activations -/
noncomputable def framesOf (l : List Env) : List Addr := l.filterMap (·.frame)

/-- each owned thing: as it is told, apart from the frames and from each other -/
structure Owns (c : Cx) (F : List Addr) (g h : Heap) (ω : Own) : Prop where
  at_ : ∀ p ∈ ω, OwnAt c g h p.1 p.2
  out : ∀ p ∈ ω, g.get? p.1 = none ∧ p.1 ∉ F
  apart : (ω.map (·.1)).Nodup

theorem Owns.move {c : Cx} {F : List Addr} {g g' : Heap} {s s' : Shared} {ω : Own} (x : Owns c F g s.heap ω) (m : Mv F [] g s g' s') : Owns c F g' s'.heap ω :=
  ⟨fun p hp => (x.at_ p hp).move m.gg fun o e => m.kept _ o (by simp) (x.out p hp).2 e,
   fun p hp => ⟨(let ⟨o, e⟩ := (x.at_ p hp).there; m.old _ o e).trans (x.out p hp).1, (x.out p hp).2⟩, x.apart⟩

/-- the frames of the activations: not frozen, their names in the heap -/
noncomputable def FrOk (g h : Heap) (l : List Env) : Prop := ∀ env ∈ l, env.scope.kind ≠ .module ∧ ∃ L m, env.frame = some L ∧ g.get? L = none ∧ h.Ns L m
theorem FrOk.fun {g h : Heap} : ∀ {l : List Env}, FrOk g h l → h.FunFrames g l
  | [], _ => trivial
  | env :: _, x => by
    obtain ⟨hk, L, m, hf, hn, o, es, ep, ho, hd, _⟩ := x env (.head _)
    exact ⟨hk, ⟨L, o, hf, hn, ho, fun vs q => by rw [hd] at q; cases q⟩, FrOk.fun fun e he => x e (.tail _ he)⟩
theorem mem_framesOf {l : List Env} {env : Env} {L : Addr} (h : env ∈ l) (hf : env.frame = some L) : L ∈ framesOf l := List.mem_filterMap.mpr ⟨env, h, hf⟩
theorem FrOk.move {l : List Env} {F B : List Addr} {g g' : Heap} {s s' : Shared} (x : FrOk g s.heap l) (m : Mv F B g s g' s') (hF : ∀ b ∈ framesOf l, b ∈ F) (hB : ∀ b ∈ B, b ∉ F) : FrOk g' s'.heap l := fun env he => by
  obtain ⟨hk, L, mm, hf, hn, hN⟩ := x env he
  have hL := hF L (mem_framesOf he hf)
  obtain ⟨o, _, _, ho, _⟩ := id hN
  exact ⟨hk, L, mm, hf, (m.old L o ho).trans hn, m.keptF L mm (fun hb => hB L hb hL) hL hN⟩

/-- an activation: where a body is run -/
structure Act where
  A : Around
  n : Nat
  env : Env
  F : List Addr
  g0 : Heap
  s0 : Shared
  box : List Addr
  full : Bool := true

/-- what is fixed of an activation -/
structure Act.Ok (c : Cx) (a : Act) : Prop where
  hd : a.A.handled = none
  depth : a.A.depth + 10 * a.n ≤ 900
  units : a.A.units + 100 * a.n ≤ 9000
  fn : a.env.scope.kind = .function
  globals : a.env.globals = mainGlobals
  builtins : a.env.builtins = builtinsNs
  wd : c.wd a.g0
  frames : ∃ fenv outer, a.A.frames = some (fenv :: outer) ∧ fenv.frame = a.env.frame ∧ a.F = framesOf (fenv :: outer)
  frame : ∃ L, a.env.frame = some L
  box : ∀ b ∈ a.box, b ∉ a.F ∧ ∃ o, a.s0.heap.get? b = some o

/-- the plain state: what the names hold, what is owned -/
structure Sg where
  loc : List (PySem.Str × D)
  own : Own

/-- x stands for v here -/
inductive NameAt (env : Env) (h : Heap) (x : PySem.Str) (v : Value) : Prop
  | loc {m : PySem.Str → Option Value} : env.kindOf x = some .local → h.Ns env.locals m → m x = some v → NameAt env h x v
  | cell {a : Addr} : env.kindOf x = some .cell ∨ env.kindOf x = some .free → env.cells.lookup x = some a → h.IsCell a (some v) → NameAt env h x v

structure St (c : Cx) (a : Act) (g : Heap) (s : Shared) (σ : Sg) : Prop where
  ok : a.Ok c
  mv : Mv a.F a.box a.g0 a.s0 g s
  fr : ∃ l, a.A.frames = some l ∧ a.F = framesOf l ∧ FrOk g s.heap l
  ns : ∃ m, s.heap.Ns a.env.locals m
  nl : g.get? a.env.locals = none
  nb : a.env.locals ∉ a.box
  newL : a.s0.heap.get? a.env.locals = none
  newC : a.full = true → ∀ x b, a.env.cells.lookup x = some b → a.s0.heap.get? b = none
  cells : ∀ x b, a.env.cells.lookup x = some b → g.get? b = none ∧ b ∉ a.box ∧ (∃ v, s.heap.IsCell b v)
  cellsF : ∀ x b, a.env.cells.lookup x = some b → b ∉ a.F ∧ b ≠ a.env.locals
  cellsA : ∀ x y b, a.env.cells.lookup x = some b → a.env.cells.lookup y = some b → x = y
  loc : ∀ x d, σ.loc.lookup x = some d → ∃ v, NameAt a.env s.heap x v ∧ Rd c g v d
  own : Owns c a.F g s.heap σ.own
  ownL : ∀ p ∈ σ.own, p.1 ≠ a.env.locals ∧ (∀ x, a.env.cells.lookup x ≠ some p.1) ∧ (p.1 ∈ a.box ∨ a.s0.heap.get? p.1 = none)

theorem NameAt.move {env : Env} {h h' : Heap} {x : PySem.Str} {v : Value} (n : NameAt env h x v) (hl : ∀ m, h.Ns env.locals m → h'.Ns env.locals m)
    (hc : ∀ b, env.cells.lookup x = some b → ∀ v, h.IsCell b v → h'.IsCell b v) : NameAt env h' x v := by
  cases n with
  | loc k n e => exact .loc k (hl _ n) e
  | cell k l e => exact .cell k l (hc _ l _ e)

theorem Mv.ns {F B : List Addr} {g g' : Heap} {s s' : Shared} (m : Mv F B g s g' s') {L : Addr} {mm : PySem.Str → Option Value} (hB : L ∉ B) (h : s.heap.Ns L mm) : s'.heap.Ns L mm := by
  by_cases hF : L ∈ F
  · exact m.keptF L mm hB hF h
  · exact h.at' fun o e => m.kept L o hB hF e
theorem Mv.cell {F B : List Addr} {g g' : Heap} {s s' : Shared} (m : Mv F B g s g' s') {L : Addr} {v : Option Value} (hB : L ∉ B) (hF : L ∉ F) (h : s.heap.IsCell L v) : s'.heap.IsCell L v :=
  let ⟨o, e, d⟩ := h; ⟨o, m.kept L o hB hF e, d⟩

/-- a step that changes nothing owned -/
theorem St.move {c : Cx} {a : Act} {g g' : Heap} {s s' : Shared} {σ : Sg} (H : St c a g s σ) (m : Mv a.F [] g s g' s') : St c a g' s' σ := by
  obtain ⟨l, hl, hF, hfr⟩ := H.fr
  have nn : ∀ b : Addr, b ∉ ([] : List Addr) := fun b h => by cases h
  refine ⟨H.ok, H.mv.trans (m.mono (fun b hb => by cases hb) (fun b hb => .inl hb) fun _ h => h), ⟨l, hl, hF, ?_⟩, ?_, ?_, H.nb, H.newL, H.newC, ?_, H.cellsF, H.cellsA, ?_, H.own.move m, H.ownL⟩
  · exact hfr.move m (fun b hb => hF ▸ hb) fun b hb => by cases hb
  · obtain ⟨mm, hn⟩ := H.ns; exact ⟨mm, m.ns (nn _) hn⟩
  · obtain ⟨mm, hn⟩ := H.ns; obtain ⟨o, _, _, ho, _⟩ := hn; exact (m.old _ o ho).trans H.nl
  · intro x b hx
    obtain ⟨h1, h2, v, h3⟩ := H.cells x b hx
    have h4 := m.cell (nn _) (H.cellsF x b hx).1 h3
    obtain ⟨o, ho, _⟩ := h3
    exact ⟨(m.old _ o ho).trans h1, h2, v, h4⟩
  · intro x d hx
    obtain ⟨v, hn, hr⟩ := H.loc x d hx
    exact ⟨v, hn.move (fun mm h => m.ns (nn _) h) (fun b hb v h => m.cell (nn _) (H.cellsF x b hb).1 h), hr.up m.gg⟩

inductive Out (α : Type) where
  | ok (x : α)
  | err

theorem St.stays {c : Cx} {a : Act} {g : Heap} {s : Shared} {σ : Sg} (H : St c a g s σ) : g.StaysIn s.heap := H.mv.gs
theorem St.wd {c : Cx} {a : Act} {g : Heap} {s : Shared} {σ : Sg} (H : St c a g s σ) : c.wd g := c.up H.mv.gg H.ok.wd
theorem St.toks {c : Cx} {a : Act} {g : Heap} {s : Shared} {σ : Sg} (H : St c a g s σ) (n : Nat) : St c a g { s with toks := n } σ := H.move (Mv.toks H.stays n)

/-- an error of the program in the air: e, new since h0, its class, its own dict with the code; tb: it has a trace -/
structure Fl (c : Cx) (h0 : Heap) (L : Addr) (g h : Heap) (F : List Addr) (x : Value) (tb : Bool) : Prop where
  ex : ∃ e oe vs dx mx tk, x = .ref e ∧ g.get? e = none ∧ h0.get? e = none ∧ h.get? e = some oe ∧ oe.cls = .ref c.C ∧ oe.data = .fields vs ∧ oe.dict = some dx ∧ h.Ns dx mx ∧ mx "code" = some (.int 270 tk) ∧ (dx ∉ F ∧ h0.get? dx = none ∧ dx ≠ L) ∧
    ((tb = false ∧ vs[1]? = some .none) ∨ ∃ T oT ts f, vs[1]? = some (.ref T) ∧ g.get? T = none ∧ h0.get? T = none ∧ T ≠ e ∧ h.get? T = some oT ∧ oT.data = .fields ts ∧ ts[3]? = some f)
theorem Fl.any {c : Cx} {h0 g h : Heap} {L : Addr} {F : List Addr} {x : Value} {tb : Bool} (y : Fl c h0 L g h F x tb) : Fl c h0 L g h F x false := by
  obtain ⟨e, oe, vs, dx, mx, tk, h1, h2, h3, h4, h5, h6, h7, h8, h9, h10, h11⟩ := y.ex
  exact ⟨e, oe, vs, dx, mx, tk, h1, h2, h3, h4, h5, h6, h7, h8, h9, h10, h11.elim (fun q => .inl ⟨rfl, q.2⟩) .inr⟩

/-- what holds where an error comes out of a part of the body -/
noncomputable def ErT {α : Type} (tb : Bool) (c : Cx) (a : Act) (g : Heap) (o : Out α) (x : Value) (s' : Shared) : Prop :=
  o = .err ∧ ∃ g' σ', g.StaysIn g' ∧ St c a g' s' σ' ∧ Fl c a.s0.heap a.env.locals g' s'.heap a.F x tb
noncomputable abbrev Er {α : Type} (c : Cx) (a : Act) (g : Heap) (o : Out α) (x : Value) (s' : Shared) : Prop := ErT false c a g o x s'

/-- e has the value d, and leaves ω owned -/
structure Ev (c : Cx) (a : Act) (σ : Sg) (e : Expr) (o : Out (D × Own)) : Prop where
  run : ∀ g s, St c a g s σ → wpAny c.M a.A (eval e a.env)
    (fun v s' => ∃ d ω, o = .ok (d, ω) ∧ ∃ g', g.StaysIn g' ∧ St c a g' s' ⟨σ.loc, ω⟩ ∧ Rd c g' v d) (Er c a g o) s
/-- the test of e -/
structure Tr (c : Cx) (a : Act) (σ : Sg) (e : Expr) (o : Out (Bool × Own)) : Prop where
  run : ∀ g s, St c a g s σ → wpAny c.M a.A (isTrue e a.env (eval e a.env))
    (fun b s' => ∃ ω, o = .ok (b, ω) ∧ ∃ g', g.StaysIn g' ∧ St c a g' s' ⟨σ.loc, ω⟩) (Er c a g o) s
/-- how a statement ends -/
inductive Fin where
  | next (σ : Sg)
  | ret (d : D) (ω : Own)

noncomputable def SPost (c : Cx) (a : Act) (g : Heap) (o : Out Fin) (f : Flow) (s' : Shared) : Prop := match f with
  | .next => ∃ σ', o = .ok (.next σ') ∧ ∃ g', g.StaysIn g' ∧ St c a g' s' σ'
  | .ret v => ∃ d ω, o = .ok (.ret d ω) ∧ ∃ g' loc, g.StaysIn g' ∧ St c a g' s' ⟨loc, ω⟩ ∧ Rd c g' v d
  | _ => False

structure Ex (c : Cx) (a : Act) (σ : Sg) (st : Stmt) (o : Out Fin) : Prop where
  run : ∀ g s, St c a g s σ → wpAny c.M a.A (exec st a.env) (SPost c a g o) (Er c a g o) s
structure Exs (c : Cx) (a : Act) (σ : Sg) (ss : List Stmt) (o : Out Fin) : Prop where
  run : ∀ g s, St c a g s σ → wpAny c.M a.A (execs ss a.env) (SPost c a g o) (Er c a g o) s
theorem Ev.then {c : Cx} {a : Act} {g : Heap} {s : Shared} {σ : Sg} {e : Expr} {d : D} {ω : Own} {Q : Value → Shared → Prop} {E : Value → Shared → Prop} (h : Ev c a σ e (.ok (d, ω))) (H : St c a g s σ)
    (q : ∀ v s₁ g₁, g.StaysIn g₁ → St c a g₁ s₁ ⟨σ.loc, ω⟩ → Rd c g₁ v d → Q v s₁) : wpAny c.M a.A (eval e a.env) Q E s :=
  wpAny_mono (h.run g s H) (fun v s₁ ⟨_, _, e, g₁, k, H₁, r⟩ => by cases e; exact q v s₁ g₁ k H₁ r) fun _ _ e => (nomatch e.1)
theorem Tr.then {c : Cx} {a : Act} {g : Heap} {s : Shared} {σ : Sg} {e : Expr} {b : Bool} {ω : Own} {Q : Bool → Shared → Prop} {E : Value → Shared → Prop} (h : Tr c a σ e (.ok (b, ω))) (H : St c a g s σ)
    (q : ∀ s₁ g₁, g.StaysIn g₁ → St c a g₁ s₁ ⟨σ.loc, ω⟩ → Q b s₁) : wpAny c.M a.A (isTrue e a.env (eval e a.env)) Q E s :=
  wpAny_mono (h.run g s H) (fun v s₁ ⟨_, e, g₁, k, H₁⟩ => by cases e; exact q s₁ g₁ k H₁) fun _ _ e => (nomatch e.1)
end

section
open PySem PySem.W PySem.Calls PyProof.Rows

/-- the heap, less one address, as a ledger -/
noncomputable def restOf (h : Heap) (L : Addr) : List (Addr × Obj) := (List.range h.objs.size).filterMap fun b => if b = L then none else (h.get? b).map fun o => (b, o)
theorem restOf_mem {h : Heap} {L b : Addr} {o : Obj} (e : h.get? b = some o) (hb : b ≠ L) : (b, o) ∈ restOf h L :=
  List.mem_filterMap.mpr ⟨b, List.mem_range.mpr (Heap.lt_size e), by rw [if_neg hb, e]; rfl⟩
theorem restOf_of {h : Heap} {L : Addr} {p : Addr × Obj} (e : p ∈ restOf h L) : h.get? p.1 = some p.2 ∧ p.1 ≠ L := by
  obtain ⟨b, _, e⟩ := List.mem_filterMap.mp e
  split at e
  · cases e
  · rename_i hb
    cases q : h.get? b with
    | none => rw [q] at e; cases e
    | some o => rw [q] at e; cases e; exact ⟨q, hb⟩
theorem none_get (b : Addr) : (({} : Heap).get? b) = none := by
  cases e : (({} : Heap).get? b) with
  | none => rfl
  | some o => exact absurd (Heap.lt_size e) (Nat.not_lt_zero _)
theorem restNews (h : Heap) (L : Addr) : News {} L h (restOf h L) := fun p hp => ⟨(restOf_of hp).1, (restOf_of hp).2, none_get _⟩
theorem kFr {h : Heap} {L : Addr} {m : PySem.Str → Option Value} (n : h.Ns L m) : Fr {} L h m := ⟨n, fun b o e => (by rw [none_get] at e; cases e), Nat.zero_le _⟩
theorem ns_fun {h : Heap} {L : Addr} {m m' : PySem.Str → Option Value} (x : h.Ns L m) (y : h.Ns L m') : m = m' := by
  obtain ⟨o, es, ep, ho, hd, _, hf⟩ := x
  obtain ⟨o', es', ep', ho', hd', _, hf'⟩ := y
  rw [ho] at ho'; cases ho'
  rw [hd] at hd'; cases hd'
  funext z
  rw [← hf, ← hf']

variable {c : Cx} {a : Act} {g : Heap} {s : Shared} {σ : Sg}

/-- a frame of the stack, with its names -/
theorem St.aFrame (H : St c a g s σ) : ∃ L m, L ∈ a.F ∧ s.heap.Ns L m := by
  obtain ⟨fenv, outer, h1, h2, h3⟩ := H.ok.frames
  obtain ⟨l, hl, hF, hfr⟩ := H.fr
  rw [h1] at hl; cases hl
  obtain ⟨_, L, m, hf, _, hn⟩ := hfr fenv (.head _)
  exact ⟨L, m, hF ▸ mem_framesOf (.head _) hf, hn⟩

theorem mv_of_K {F : List Addr} {L : Addr} {m : PySem.Str → Option Value} {h' : Heap} {ext : List (Addr × Obj)} {k : Nat} (ks : g.StaysIn s.heap) (hL : L ∈ F) (hg : g.get? L = none) (n : s.heap.Ns L m)
    (F' : Fr {} L h' m) (N' : News {} L h' (ext ++ restOf s.heap L)) (as : List Addr) (ha : ∀ x ∈ as, s.heap.get? x = none) : Mv F [] g s (addTo g h' as) { s with heap := h', toks := k } := by
  have keep : ∀ b o, b ≠ L → s.heap.get? b = some o → h'.get? b = some o := fun b o hb e => (N' _ (List.mem_append_right _ (restOf_mem e hb))).1
  have k' : g.StaysIn h' := fun b o e => keep b o (fun q => by rw [q, hg] at e; cases e) (ks b o e)
  refine ⟨addTo_up k' as, addTo_in _ _ _, fun b o e => addTo_old k' fun hm => (by rw [ha b hm] at e; cases e), fun b o e => ?_, fun b o _ hF e => keep b o (fun q => hF (q ▸ hL)) e, fun b mm _ hF e => ?_, rfl, rfl⟩
  · by_cases hb : b = L
    · subst hb; obtain ⟨o', _, _, e', _⟩ := F'.ns; exact ⟨o', e'⟩
    · exact ⟨o, keep b o hb e⟩
  · by_cases hb : b = L
    · subst hb; rw [ns_fun e n]; exact F'.ns
    · exact e.at' fun o e => keep b o hb e
theorem addTo_nil {g h : Heap} (k : g.StaysIn h) : g.StaysIn (addTo g h []) ∧ (addTo g h []).StaysIn g :=
  ⟨addTo_up k [], fun b o e => by rw [addTo_old k (by simp)] at e; exact e⟩

theorem Ev.mono {e : Expr} {o o' : Out (D × Own)} (h : Ev c a σ e o) (q : o = o') : Ev c a σ e o' := q ▸ h

/-- from a tree that keeps the state to the value of an expression -/
theorem Ev.of {e : Expr} {d : D} (h : ∀ g s, St c a g s σ → wpAny c.M a.A (eval e a.env) (fun v s' => ∃ g', Mv a.F [] g s g' s' ∧ Rd c g' v d) (fun _ _ => False) s) : Ev c a σ e (.ok (d, σ.own)) := .mk fun g s H =>
  wpAny_mono (h g s H) (fun v s' ⟨g', m, r⟩ => ⟨d, _, rfl, g', m.gg, H.move m, r⟩) fun _ _ f => f.elim

theorem Ev.int (i : Int) (k pos) : Ev c a σ (.Constant (.int i) k pos) (.ok (.int i, σ.own)) := .of fun g s H =>
  wpAny_Constant_int ⟨g, Mv.toks H.stays _, .int i _⟩
theorem Ev.str (x : PySem.Str) (k pos) : Ev c a σ (.Constant (.str x) k pos) (.ok (.str x, σ.own)) := .of fun g s H =>
  fun _ _ _ => ⟨g, Mv.toks H.stays _, .str x _⟩
theorem Ev.bytes (b : List UInt8) (k pos) : Ev c a σ (.Constant (.bytes b) k pos) (.ok (.bytes b, σ.own)) := .of fun g s H =>
  fun _ _ _ => ⟨g, Mv.toks H.stays _, .bytes b _⟩
theorem Ev.none (k pos) : Ev c a σ (.Constant .none k pos) (.ok (.none, σ.own)) := .of fun g s H => fun _ _ _ => ⟨g, Mv.refl H.stays, .none⟩
theorem Ev.bool (b k pos) : Ev c a σ (.Constant (.bool b) k pos) (.ok (.bool b, σ.own)) := .of fun g s H => fun _ _ _ => ⟨g, Mv.refl H.stays, .bool b⟩

theorem Ev.name {x : PySem.Str} {pos : Pos} {d : D} (h : σ.loc.lookup x = some d) (hd : (x == ("__debug__" : PySem.Str)) = false := by decide) (hc : (x == ("__classdict__" : PySem.Str)) = false := by decide) :
    Ev c a σ (.Name x pos) (.ok (d, σ.own)) := .of fun g s H => by
  obtain ⟨v, hn, hr⟩ := H.loc x d h
  refine wpAny_Name ?_ hd
  cases hn with
  | loc k n e => exact wpAny_loadName_local H.ok.fn k n e ⟨g, Mv.refl H.stays, hr⟩
  | cell k l e =>
    rcases k with k | k
    · exact wpAny_loadName_cell H.ok.fn k l e ⟨g, Mv.refl H.stays, hr⟩
    · exact wpAny_loadName_free H.ok.fn k l e ⟨g, Mv.refl H.stays, hr⟩ hc

theorem loadGlobal_at {A : Around} {E : Value → Shared → Prop} {x : PySem.Str} {v : Value} {Q : Value → Shared → Prop} {mg : PySem.Str → Option Value} {env : Env} {M : Model} (hg : env.globals = mainGlobals) (hn : s.heap.Ns mainGlobals mg) (hv : mg x = some v) (h : Q v s) :
    wpAny M A (loadGlobal env x) Q E s := by
  unfold loadGlobal
  rw [hg]
  refine wpAny_bind (wpAny_nsGet hn ?_)
  rw [hv]
  exact wpAny_pure h
theorem Ev.glob {x : PySem.Str} {pos : Pos} {v : Value} {d : D} (hv : c.mg x = some v) (hr : ∀ g, c.wd g → Rd c g v d) (hx : a.env.kindOf x = some .globalImplicit) (hd : (x == ("__debug__" : PySem.Str)) = false := by decide) :
    Ev c a σ (.Name x pos) (.ok (d, σ.own)) := .of fun g s H => by
  refine wpAny_Name ?_ hd
  rw [loadName_read H.ok.fn hx]
  exact loadGlobal_at H.ok.globals ((c.glob H.wd).keeps H.stays) hv ⟨g, Mv.refl H.stays, hr g H.wd⟩

theorem Ev.bltn {x : PySem.Str} {pos : Pos} {v : Value} {d : D} (hm : c.mg x = .none) (hv : c.mb x = some v) (hr : ∀ g, c.wd g → Rd c g v d) (hx : a.env.kindOf x = some .globalImplicit) (hd : (x == ("__debug__" : PySem.Str)) = false := by decide) :
    Ev c a σ (.Name x pos) (.ok (d, σ.own)) := .of fun g s H => by
  refine wpAny_Name ?_ hd
  rw [loadName_read H.ok.fn hx]
  unfold loadGlobal
  rw [H.ok.globals, H.ok.builtins]
  refine wpAny_bind (wpAny_nsGet ((c.glob H.wd).keeps H.stays) ?_)
  rw [hm]
  refine wpAny_bind (wpAny_nsGet ((c.bltn H.wd).keeps H.stays) ?_)
  rw [hv]
  exact wpAny_pure ⟨g, Mv.refl H.stays, hr g H.wd⟩

/-- what an operator does here to what reads x and y -/
structure Bin (c : Cx) (a : Act) (σ : Sg) (t : Value → Value → Sem Value) (x y z : D) : Prop where
  run : ∀ g s v w, St c a g s σ → Rd c g v x → Rd c g w y → wpAny c.M a.A (t v w) (fun r s' => ∃ g', Mv a.F [] g s g' s' ∧ Rd c g' r z) (fun _ _ => False) s
theorem Ev.bin {l r : Expr} {op : Operator} {pos : Pos} {x y z : D} {ω₁ ω₂ : Own} (h1 : Ev c a σ l (.ok (x, ω₁))) (h2 : Ev c a ⟨σ.loc, ω₁⟩ r (.ok (y, ω₂))) (h3 : Bin c a ⟨σ.loc, ω₂⟩ (binaryOp op) x y z) :
    Ev c a σ (.BinOp l op r pos) (.ok (z, ω₂)) := .mk fun g s H => by
  refine wpAny_BinOp (h1.then H (fun v s₁ g₁ k₁ H₁ r₁ => ?_))
  refine h2.then H₁ (fun w s₂ g₂ k₂ H₂ r₂ => ?_)
  refine wpAny_mono (h3.run g₂ s₂ v w H₂ (r₁.up k₂) r₂) (fun z' s₃ h => ?_) fun _ _ e => e.elim
  obtain ⟨g₃, m, r₃⟩ := h
  exact ⟨_, _, rfl, g₃, fun b o e => m.gg b o (k₂ b o (k₁ b o e)), H₂.move m, r₃⟩
theorem Ev.cmp {l r : Expr} {op : CmpOp} {pos : Pos} {x y z : D} {ω₁ ω₂ : Own} (h1 : Ev c a σ l (.ok (x, ω₁))) (h2 : Ev c a ⟨σ.loc, ω₁⟩ r (.ok (y, ω₂))) (h3 : Bin c a ⟨σ.loc, ω₂⟩ (compareOp op) x y z)
    (hm : behindInMarks op r = false := by with_unfolding_all rfl) : Ev c a σ (.Compare l [op] [r] pos) (.ok (z, ω₂)) := .mk fun g s H => by
  refine wpAny_Compare1 (h1.then H (fun v s₁ g₁ k₁ H₁ r₁ => ?_)) hm
  refine h2.then H₁ (fun w s₂ g₂ k₂ H₂ r₂ => ?_)
  refine wpAny_mono (h3.run g₂ s₂ v w H₂ (r₁.up k₂) r₂) (fun z' s₃ h => ?_) fun _ _ e => e.elim
  obtain ⟨g₃, m, r₃⟩ := h
  exact ⟨_, _, rfl, g₃, fun b o e => m.gg b o (k₂ b o (k₁ b o e)), H₂.move m, r₃⟩
theorem Tr.cmp {l r : Expr} {op : CmpOp} {pos : Pos} {x y : D} {b : Bool} {ω₁ ω₂ : Own} (h1 : Ev c a σ l (.ok (x, ω₁))) (h2 : Ev c a ⟨σ.loc, ω₁⟩ r (.ok (y, ω₂))) (h3 : Bin c a ⟨σ.loc, ω₂⟩ (compareOp op) x y (.bool b))
    (hm : behindInMarks op r = false := by with_unfolding_all rfl) : Tr c a σ (.Compare l [op] [r] pos) (.ok (b, ω₂)) := .mk fun g s H => by
  refine wpAny_isTrue_Compare1 (h1.then H (fun v s₁ g₁ k₁ H₁ r₁ => ?_)) hm
  refine h2.then H₁ (fun w s₂ g₂ k₂ H₂ r₂ => ?_)
  refine wpAny_mono (h3.run g₂ s₂ v w H₂ (r₁.up k₂) r₂) (fun z' s₃ h => ?_) fun _ _ e => e.elim
  obtain ⟨g₃, m, r₃⟩ := h
  cases r₃
  exact wpAny_truthy_bool ⟨_, rfl, g₃, fun b o e => m.gg b o (k₂ b o (k₁ b o e)), H₂.move m⟩
theorem Tr.cmpErr {l r : Expr} {op : CmpOp} {pos : Pos} (h1 : Ev c a σ l .err) (hm : behindInMarks op r = false := by with_unfolding_all rfl) : Tr c a σ (.Compare l [op] [r] pos) .err := .mk fun g s H => by
  refine wpAny_isTrue_Compare1 (wpAny_mono (h1.run g s H) (fun v s₁ h => ?_) fun _ _ e => ?_) hm
  · obtain ⟨d, ω, e, _⟩ := h; cases e
  · exact ⟨rfl, e.2⟩

theorem Tr.plain {e : Expr} {b : Bool} {ω : Own} (h : Ev c a σ e (.ok (.bool b, ω)))
    (he : ∀ whole, isTrue e a.env whole = (do let v ← whole; standAt e.pos; holding [v] (truthy v)) := by intro _; rfl) : Tr c a σ e (.ok (b, ω)) := .mk fun g s H => by
  refine isTrue_plain (h.then H (fun v s₁ g₁ k₁ H₁ r₁ => ?_)) (he _)
  cases r₁
  exact wpAny_truthy_bool ⟨_, rfl, g₁, k₁, H₁⟩
theorem Tr.not {e : Expr} {pos : Pos} {b : Bool} {ω : Own} (h : Tr c a σ e (.ok (b, ω))) : Tr c a σ (.UnaryOp .Not e pos) (.ok (!b, ω)) := .mk fun g s H => by
  refine isTrue_not (h.then H (fun s₁ g₁ k₁ H₁ => ?_))
  exact ⟨_, rfl, g₁, k₁, H₁⟩
theorem Ev.not {e : Expr} {pos : Pos} {b : Bool} {ω : Own} (h : Ev c a σ e (.ok (.bool b, ω))) : Ev c a σ (.UnaryOp .Not e pos) (.ok (.bool (!b), ω)) := .mk fun g s H => by
  show wpAny c.M a.A (do let v ← eval e a.env; standAt pos; holding [v] (unaryOp .Not v)) _ _ s
  refine wpAny_bind (h.then H (fun v s₁ g₁ k₁ H₁ r₁ => ?_))
  cases r₁
  exact wpAny_bind (wpAny_standAt (wpAny_holding (not_of (wpAny_truthy_bool ⟨_, _, rfl, g₁, k₁, H₁, .bool _⟩))))

/-- the tests of a row of an and, an or -/
structure TrL (c : Cx) (a : Act) (σ : Sg) (op : BoolOp) (es : List Expr) (o : Out (Bool × Own)) : Prop where
  run : ∀ g s, St c a g s σ → wpAny c.M a.A (allTrue op es a.env) (fun b s' => ∃ ω, o = .ok (b, ω) ∧ ∃ g', g.StaysIn g' ∧ St c a g' s' ⟨σ.loc, ω⟩) (Er c a g o) s
theorem Tr.bool {op : BoolOp} {es : List Expr} {pos : Pos} {o : Out (Bool × Own)} (h : TrL c a σ op es o) : Tr c a σ (.BoolOp op es pos) o := .mk h.run
theorem TrL.nil {op : BoolOp} : TrL c a σ op [] (.ok (op == .And, σ.own)) := .mk fun g s H => wpAny_pure ⟨_, rfl, g, fun _ _ e => e, H⟩
theorem TrL.stop {op : BoolOp} {e : Expr} {es : List Expr} {b : Bool} {ω : Own} (h : Tr c a σ e (.ok (b, ω))) (hb : (op = .And ∧ b = false) ∨ (op = .Or ∧ b = true)) : TrL c a σ op (e :: es) (.ok (b, ω)) := .mk fun g s H => by
  unfold allTrue
  refine wpAny_bind (h.then H (fun s₁ g₁ k₁ H₁ => ?_))
  rcases hb with ⟨rfl, rfl⟩ | ⟨rfl, rfl⟩ <;> exact wpAny_pure ⟨_, rfl, g₁, k₁, H₁⟩
theorem TrL.go {op : BoolOp} {e : Expr} {es : List Expr} {b : Bool} {ω : Own} {o : Out (Bool × Own)} (h : Tr c a σ e (.ok (b, ω))) (hb : (op = .And ∧ b = true) ∨ (op = .Or ∧ b = false)) (h2 : TrL c a ⟨σ.loc, ω⟩ op es o) : TrL c a σ op (e :: es) o := .mk fun g s H => by
  unfold allTrue
  refine wpAny_bind (h.then H (fun s₁ g₁ k₁ H₁ => ?_))
  have fin : wpAny c.M a.A (allTrue op es a.env) (fun b s' => ∃ ω, o = .ok (b, ω) ∧ ∃ g', g.StaysIn g' ∧ St c a g' s' ⟨σ.loc, ω⟩) (Er c a g o) s₁ :=
    wpAny_mono (h2.run g₁ s₁ H₁) (fun b s' ⟨ω, q, g₂, k₂, H₂⟩ => ⟨ω, q, g₂, fun b o e => k₂ b o (k₁ b o e), H₂⟩) fun _ _ ⟨q, g₂, σ', k₂, H₂⟩ => ⟨q, g₂, σ', fun b o e => k₂ b o (k₁ b o e), H₂⟩
  rcases hb with ⟨rfl, rfl⟩ | ⟨rfl, rfl⟩ <;> exact fin
theorem TrL.err {op : BoolOp} {e : Expr} {es : List Expr} (h : Tr c a σ e .err) : TrL c a σ op (e :: es) .err := .mk fun g s H => by
  unfold allTrue
  refine wpAny_bind (wpAny_mono (h.run g s H) (fun v s₁ h => ?_) fun _ _ e => ⟨rfl, e.2⟩)
  obtain ⟨ω', q, _⟩ := h; cases q

/-- the value of a row of an and, an or of truths -/
structure EvL (c : Cx) (a : Act) (σ : Sg) (pos : Pos) (op : BoolOp) (es : List Expr) (o : Out (D × Own)) : Prop where
  run : ∀ g s, St c a g s σ → wpAny c.M a.A (boolOp pos op (evalEach es a.env)) (fun v s' => ∃ d ω, o = .ok (d, ω) ∧ ∃ g', g.StaysIn g' ∧ St c a g' s' ⟨σ.loc, ω⟩ ∧ Rd c g' v d) (Er c a g o) s
theorem Ev.bool_ {op : BoolOp} {es : List Expr} {pos : Pos} {o : Out (D × Own)} (h : EvL c a σ pos op es o) : Ev c a σ (.BoolOp op es pos) o := .mk h.run
theorem EvL.one {op : BoolOp} {e : Expr} {pos : Pos} {o : Out (D × Own)} (h : Ev c a σ e o) : EvL c a σ pos op [e] o := .mk h.run
theorem EvL.stop {op : BoolOp} {pos : Pos} {e e2 : Expr} {es : List Expr} {b : Bool} {ω : Own} (h : Ev c a σ e (.ok (.bool b, ω))) (hb : (op = .And ∧ b = false) ∨ (op = .Or ∧ b = true)) : EvL c a σ pos op (e :: e2 :: es) (.ok (.bool b, ω)) := .mk fun g s H => by
  show wpAny c.M a.A (boolOp pos op (eval e a.env :: eval e2 a.env :: evalEach es a.env)) _ _ s
  rw [boolOp]
  · refine wpAny_bind (h.then H (fun v s₁ g₁ k₁ H₁ r₁ => ?_))
    cases r₁
    refine wpAny_bind (wpAny_standAt (wpAny_bind (wpAny_holding (wpAny_truthy_bool ?_))))
    rcases hb with ⟨rfl, rfl⟩ | ⟨rfl, rfl⟩ <;> exact wpAny_pure ⟨_, _, rfl, g₁, k₁, H₁, .bool _⟩
  · intro q; cases q
theorem EvL.go {op : BoolOp} {pos : Pos} {e e2 : Expr} {es : List Expr} {b : Bool} {ω : Own} {o : Out (D × Own)} (h : Ev c a σ e (.ok (.bool b, ω))) (hb : (op = .And ∧ b = true) ∨ (op = .Or ∧ b = false)) (h2 : EvL c a ⟨σ.loc, ω⟩ pos op (e2 :: es) o) : EvL c a σ pos op (e :: e2 :: es) o := .mk fun g s H => by
  show wpAny c.M a.A (boolOp pos op (eval e a.env :: eval e2 a.env :: evalEach es a.env)) _ _ s
  rw [boolOp]
  · refine wpAny_bind (h.then H (fun v s₁ g₁ k₁ H₁ r₁ => ?_))
    cases r₁
    refine wpAny_bind (wpAny_standAt (wpAny_bind (wpAny_holding (wpAny_truthy_bool ?_))))
    have fin := wpAny_mono (Q' := fun v s' => ∃ d ω, o = .ok (d, ω) ∧ ∃ g', g.StaysIn g' ∧ St c a g' s' ⟨σ.loc, ω⟩ ∧ Rd c g' v d) (E' := Er c a g o) (h2.run g₁ s₁ H₁) (fun v s' ⟨d, ω, q, g₂, k₂, H₂, r₂⟩ => ⟨d, ω, q, g₂, fun b o e => k₂ b o (k₁ b o e), H₂, r₂⟩) fun _ _ ⟨q, g₂, σ', k₂, H₂⟩ => ⟨q, g₂, σ', fun b o e => k₂ b o (k₁ b o e), H₂⟩
    rcases hb with ⟨rfl, rfl⟩ | ⟨rfl, rfl⟩ <;> exact fin
  · intro q; cases q

theorem Ev.ifT {test body orelse : Expr} {pos : Pos} {ω : Own} {o : Out (D × Own)} (h : Tr c a σ test (.ok (true, ω))) (h2 : Ev c a ⟨σ.loc, ω⟩ body o) : Ev c a σ (.IfExp test body orelse pos) o := .mk fun g s H => by
  show wpAny c.M a.A (do if ← isTrue test a.env (eval test a.env) then eval body a.env else eval orelse a.env) _ _ s
  refine wpAny_bind (h.then H (fun s₁ g₁ k₁ H₁ => ?_))
  exact wpAny_mono (h2.run g₁ s₁ H₁) (fun v s' ⟨d, ω, q, g₂, k₂, H₂, r₂⟩ => ⟨d, ω, q, g₂, fun b o e => k₂ b o (k₁ b o e), H₂, r₂⟩) fun _ _ ⟨q, g₂, σ', k₂, H₂⟩ => ⟨q, g₂, σ', fun b o e => k₂ b o (k₁ b o e), H₂⟩
theorem Ev.ifF {test body orelse : Expr} {pos : Pos} {ω : Own} {o : Out (D × Own)} (h : Tr c a σ test (.ok (false, ω))) (h2 : Ev c a ⟨σ.loc, ω⟩ orelse o) : Ev c a σ (.IfExp test body orelse pos) o := .mk fun g s H => by
  show wpAny c.M a.A (do if ← isTrue test a.env (eval test a.env) then eval body a.env else eval orelse a.env) _ _ s
  refine wpAny_bind (h.then H (fun s₁ g₁ k₁ H₁ => ?_))
  exact wpAny_mono (h2.run g₁ s₁ H₁) (fun v s' ⟨d, ω, q, g₂, k₂, H₂, r₂⟩ => ⟨d, ω, q, g₂, fun b o e => k₂ b o (k₁ b o e), H₂, r₂⟩) fun _ _ ⟨q, g₂, σ', k₂, H₂⟩ => ⟨q, g₂, σ', fun b o e => k₂ b o (k₁ b o e), H₂⟩
theorem Ev.if_ {test body orelse : Expr} {pos : Pos} {b : Bool} {ω : Own} {o : Out (D × Own)} (h : Tr c a σ test (.ok (b, ω))) (hT : b = true → Ev c a ⟨σ.loc, ω⟩ body o) (hF : b = false → Ev c a ⟨σ.loc, ω⟩ orelse o) : Ev c a σ (.IfExp test body orelse pos) o := by
  cases b with
  | true => exact .ifT h (hT rfl)
  | false => exact .ifF h (hF rfl)
end

section
open PySem PySem.W PySem.Calls PyProof.Rows PySem.SeqAt

/-- x == y is b, told of the plain ones -/
inductive EqI : D → D → Bool → Prop
  | none : EqI .none .none true
  | bool (a b : Bool) : EqI (.bool a) (.bool b) (a == b)
  | int (a b : Int) : EqI (.int a) (.int b) (a == b)
  | str (a b : PySem.Str) : EqI (.str a) (.str b) (a == b)
  | bytes (a b : List UInt8) : EqI (.bytes a) (.bytes b) (a == b)
  | noneInt (i : Int) : EqI .none (.int i) false
  | intNone (i : Int) : EqI (.int i) .none false
/-- of rows -/
inductive EqR (R : D → D → Bool → Prop) : List D → List D → Bool → Prop
  | nil : EqR R [] [] true
  | left (d : D) (ds : List D) : EqR R (d :: ds) [] false
  | right (d : D) (ds : List D) : EqR R [] (d :: ds) false
  | cons {d e : D} {ds es : List D} {b b' : Bool} : R d e b → EqR R ds es b' → EqR R (d :: ds) (e :: es) (b && b')
/-- x == y is b -/
noncomputable def EqD : Nat → D → D → Bool → Prop
  | 0, d, e, b => EqI d e b
  | n + 1, d, e, b => EqI d e b ∨ ∃ ds es, EqR (EqD n) ds es b ∧ ((d = .tup ds ∧ e = .tup es) ∨ (d = .lst ds ∧ e = .lst es))
noncomputable abbrev EqAll (n : Nat) : List D → List D → Bool → Prop := EqR (EqD n)
theorem EqD.imm {d e : D} {b : Bool} (q : EqI d e b) : ∀ {n : Nat}, EqD n d e b
  | 0 => q
  | _ + 1 => .inl q
theorem EqD.none {n : Nat} : EqD n .none .none true := .imm .none
theorem EqD.bool {n : Nat} (a b : Bool) : EqD n (.bool a) (.bool b) (a == b) := .imm (.bool a b)
theorem EqD.int {n : Nat} (a b : Int) : EqD n (.int a) (.int b) (a == b) := .imm (.int a b)
theorem EqD.str {n : Nat} (a b : PySem.Str) : EqD n (.str a) (.str b) (a == b) := .imm (.str a b)
theorem EqD.bytes {n : Nat} (a b : List UInt8) : EqD n (.bytes a) (.bytes b) (a == b) := .imm (.bytes a b)
theorem EqD.noneInt {n : Nat} (i : Int) : EqD n .none (.int i) false := .imm (.noneInt i)
theorem EqD.intNone {n : Nat} (i : Int) : EqD n (.int i) .none false := .imm (.intNone i)
theorem EqD.tup {n : Nat} {ds es : List D} {b : Bool} (h : EqAll n ds es b) : EqD (n + 1) (.tup ds) (.tup es) b := .inr ⟨ds, es, h, .inl ⟨rfl, rfl⟩⟩
theorem EqD.lst {n : Nat} {ds es : List D} {b : Bool} (h : EqAll n ds es b) : EqD (n + 1) (.lst ds) (.lst es) b := .inr ⟨ds, es, h, .inr ⟨rfl, rfl⟩⟩
theorem EqAll.nil {n : Nat} : EqAll n [] [] true := EqR.nil
theorem EqAll.left {n : Nat} (d : D) (ds : List D) : EqAll n (d :: ds) [] false := EqR.left d ds
theorem EqAll.right {n : Nat} (d : D) (ds : List D) : EqAll n [] (d :: ds) false := EqR.right d ds
theorem EqAll.cons {n : Nat} {d e : D} {ds es : List D} {b b' : Bool} (h : EqD n d e b) (r : EqAll n ds es b') : EqAll n (d :: ds) (e :: es) (b && b') := EqR.cons h r

theorem list_fun {g : Heap} {a : Addr} {vs ws : List Value} (h : g.IsList a vs.toArray) (h' : g.IsList a ws.toArray) : vs = ws := by
  obtain ⟨o, ho, _, n, hd⟩ := h
  obtain ⟨o', ho', _, n', hd'⟩ := h'
  rw [ho] at ho'; cases ho'
  rw [hd] at hd'
  have := congrArg (fun d => match d with | Data.seq x _ => x.toList | _ => []) hd'
  simpa using this
theorem tuple_fun {g : Heap} {a : Addr} {vs ws : List Value} (h : g.IsTuple a vs.toArray) (h' : g.IsTuple a ws.toArray) : vs = ws := by
  obtain ⟨o, ho, _, n, hd⟩ := h
  obtain ⟨o', ho', _, n', hd'⟩ := h'
  rw [ho] at ho'; cases ho'
  rw [hd] at hd'
  have := congrArg (fun d => match d with | Data.seq x _ => x.toList | _ => []) hd'
  simpa using this

theorem EqI.same {c : Cx} {g : Heap} {d e : D} {b : Bool} {v : Value} (q : EqI d e b) (h : Rd c g v d) (h' : Rd c g v e) : b = true := by
  cases q with
  | none => rfl
  | bool a b => obtain rfl := h.inv; cases h'.inv; exact beq_self_eq_true _
  | int a b => obtain ⟨t, rfl⟩ := h.inv; obtain ⟨u, q⟩ := h'.inv; cases q; exact beq_self_eq_true _
  | str a b => obtain ⟨t, rfl⟩ := h.inv; obtain ⟨u, q⟩ := h'.inv; cases q; exact beq_self_eq_true _
  | bytes a b =>
    obtain ⟨t, rfl⟩ := h.inv; obtain ⟨u, q⟩ := h'.inv
    have q' : a.toArray = b.toArray := (Value.bytes.inj q).1
    rw [show a = b from by simpa using q']; exact beq_self_eq_true _
  | noneInt i => obtain rfl := h.inv; obtain ⟨u, q⟩ := h'.inv; cases q
  | intNone i => obtain ⟨t, rfl⟩ := h.inv; cases h'.inv
theorem EqR.same {R : D → D → Bool → Prop} {c : Cx} {g : Heap} (hR : ∀ {d e : D} {b : Bool} {v : Value}, R d e b → Rd c g v d → Rd c g v e → b = true) {ds es : List D} {b : Bool} (q : EqR R ds es b) : ∀ {vs : List Value}, RdAll c g vs ds → RdAll c g vs es → b = true := by
  induction q with
  | nil => exact fun _ _ => rfl
  | left => intro vs h h'; obtain ⟨v, ws, rfl, _, _⟩ := h.inv; cases h'.inv
  | right => intro vs h h'; obtain rfl := h.inv; obtain ⟨v, ws, q, _, _⟩ := h'.inv; cases q
  | cons q _ ih =>
    intro vs h h'
    obtain ⟨v, ws, rfl, h1, r1⟩ := h.inv
    obtain ⟨_, _, q', h2, r2⟩ := h'.inv
    cases q'
    rw [hR q h1 h2, ih r1 r2]; rfl
theorem EqD.same {c : Cx} {g : Heap} : ∀ {n : Nat} {d e : D} {b : Bool} {v : Value}, EqD n d e b → Rd c g v d → Rd c g v e → b = true
  | 0, _, _, _, _, q, h, h' => EqI.same q h h'
  | _ + 1, _, _, _, _, .inl q, h, h' => EqI.same q h h'
  | n + 1, _, _, _, _, .inr ⟨ds, es, q, .inl ⟨e1, e2⟩⟩, h, h' => by
    subst e1 e2
    obtain ⟨a, vs, rfl, h1, r1⟩ := h.inv
    obtain ⟨_, ws, q', h2, r2⟩ := h'.inv
    cases q'
    cases tuple_fun h1 h2
    exact q.same (fun q => EqD.same q) r1 r2
  | n + 1, _, _, _, _, .inr ⟨ds, es, q, .inr ⟨e1, e2⟩⟩, h, h' => by
    subst e1 e2
    obtain ⟨a, vs, rfl, h1, r1⟩ := h.inv
    obtain ⟨_, ws, q', h2, r2⟩ := h'.inv
    cases q'
    cases list_fun h1 h2
    exact q.same (fun q => EqD.same q) r1 r2

theorem RcAt.bytes_bytes {A : Around} {s : Shared} (b c : List UInt8) (t u : Tok) : RcAt A s (.bytes b.toArray t) (.bytes c.toArray u) (b == c) := fun prog w E Q h =>
  eq_bytes (A := A) (E := E) (by simpa using h)
theorem EqAt.bytes_bytes {A : Around} {s : Shared} (b c : List UInt8) (t u : Tok) : EqAt A s (.bytes b.toArray t) (.bytes c.toArray u) (b == c) := fun prog w E Q h =>
  eqBool_bytes (by
    have e : decide (b.toArray.toList = c.toArray.toList) = (b == c) := by rw [Bool.eq_iff_iff]; simp
    rw [e]; exact h)
theorem size_eq {vs : List Value} : vs.toArray.size = vs.length := by simp
theorem range_all_cons (n : Nat) (e : Nat → Bool) : (List.range (n + 1)).all e = (e 0 && (List.range n).all fun i => e (i + 1)) := by
  rw [List.range_succ_eq_map, List.all_cons, List.all_map]; rfl

/-- what the items' equalities make of a row of equal length -/
theorem EqR.items {R : D → D → Bool → Prop} {c : Cx} {ds es : List D} {b : Bool} (q : EqR R ds es b) : ∀ {g : Heap} {vs ws : List Value}, RdAll c g vs ds → RdAll c g ws es →
    ∃ e : Nat → Bool, (∀ j v w, vs[j]? = some v → ws[j]? = some w → ∃ d d', R d d' (e j) ∧ Rd c g v d ∧ Rd c g w d') ∧
      ((List.range (min vs.length ws.length)).all e && vs.length == ws.length) = b ∧ (vs.length = ws.length → (List.range vs.length).all e = b) ∧ (vs.length ≠ ws.length → b = false) := by
  induction q with
  | nil =>
    intro g vs ws hv hw
    obtain rfl := hv.inv; obtain rfl := hw.inv
    exact ⟨fun _ => true, (fun j v w h => (by cases h)), rfl, (fun _ => rfl), fun h => absurd rfl h⟩
  | left d ds =>
    intro g vs ws hv hw
    obtain ⟨v, vs, rfl, _, _⟩ := hv.inv; obtain rfl := hw.inv
    exact ⟨fun _ => true, (fun j v w _ h => (by cases h)), Bool.and_eq_false_imp.mpr (fun _ => rfl), (fun h => (by cases h)), fun _ => rfl⟩
  | right d ds =>
    intro g vs ws hv hw
    obtain rfl := hv.inv; obtain ⟨v, vs, rfl, _, _⟩ := hw.inv
    exact ⟨fun _ => true, (fun j v w h => (by cases h)), Bool.and_eq_false_imp.mpr (fun _ => rfl), (fun h => (by cases h)), fun _ => rfl⟩
  | @cons d e ds es b b' q1 q2 ih =>
    intro g vs ws hv hw
    obtain ⟨v, vs, rfl, h, r⟩ := hv.inv
    obtain ⟨w, ws, rfl, h', r'⟩ := hw.inv
    obtain ⟨f, f1, f2, f3, f4⟩ := ih r r'
    refine ⟨fun j => match j with | 0 => b | j + 1 => f j, fun j x y hx hy => ?_, ?_, fun hl => ?_, fun hl => ?_⟩
    · cases j with
      | zero => cases hx; cases hy; exact ⟨_, _, q1, h, h'⟩
      | succ j => exact f1 j x y hx hy
    · rw [← f2]
      have : min (v :: vs).length (w :: ws).length = min vs.length ws.length + 1 := Nat.succ_min_succ _ _
      rw [this, range_all_cons, show ((v :: vs).length == (w :: ws).length) = (vs.length == ws.length) from by rw [Bool.eq_iff_iff]; simp, Bool.and_assoc]
    · rw [← f3 (Nat.succ.inj hl)]
      exact range_all_cons _ _
    · rw [f4 (fun q => hl (congrArg (· + 1) q)), Bool.and_false]

noncomputable abbrev Both (A : Around) (s : Shared) (v w : Value) (b : Bool) : Prop := RcAt A s v w b ∧ EqAt A s v w b ∧ RcNeAt A s v w (!b)
theorem EqI.both {c : Cx} {A : Around} {g : Heap} {s : Shared} {v w : Value} {d e : D} {b : Bool} (q : EqI d e b) (hv : Rd c g v d) (hw : Rd c g w e) : Both A s v w b := by
  cases q with
  | none => obtain rfl := hv.inv; obtain rfl := hw.inv; exact ⟨RcAt.none_none, EqAt.same _, RcNeAt.none_none⟩
  | bool a b => obtain rfl := hv.inv; obtain rfl := hw.inv; exact ⟨RcAt.bool_bool a b, EqAt.bool_bool a b, RcNeAt.bool_bool a b⟩
  | int a b => obtain ⟨t, rfl⟩ := hv.inv; obtain ⟨u, rfl⟩ := hw.inv; exact ⟨RcAt.int_int a t b u, EqAt.int_int a t b u, RcNeAt.int_int a t b u⟩
  | str a b => obtain ⟨t, rfl⟩ := hv.inv; obtain ⟨u, rfl⟩ := hw.inv; exact ⟨RcAt.str_str a t b u, EqAt.str_str a t b u, RcNeAt.str_str a t b u⟩
  | bytes a b => obtain ⟨t, rfl⟩ := hv.inv; obtain ⟨u, rfl⟩ := hw.inv; exact ⟨RcAt.bytes_bytes a b t u, EqAt.bytes_bytes a b t u, fun prog ww E Q h => ne_bytes (A := A) (E := E) (by simpa [bne] using h)⟩
  | noneInt i => obtain rfl := hv.inv; obtain ⟨u, rfl⟩ := hw.inv; exact ⟨RcAt.none_int i u, EqAt.none_int i u, RcNeAt.none_int i u⟩
  | intNone i => obtain ⟨t, rfl⟩ := hv.inv; obtain rfl := hw.inv; exact ⟨RcAt.int_none i t, EqAt.int_none i t, RcNeAt.int_none i t⟩
theorem both_refs {A : Around} {s : Shared} {a a' : Addr} {b : Bool} (h : a = a' → b = true) (x : RcAt A s (.ref a) (.ref a') b ∧ RcNeAt A s (.ref a) (.ref a') (!b)) : Both A s (.ref a) (.ref a') b := by
  refine ⟨x.1, ?_, x.2⟩
  by_cases haa : a = a'
  · obtain rfl := h haa
    subst haa; exact EqAt.same _
  · exact EqAt.of_refs haa x.1
theorem EqD.both {c : Cx} {n : Nat} : ∀ {d e : D} {b : Bool}, EqD n d e b → ∀ {A : Around} {g : Heap} {s : Shared} {v w : Value}, g.StaysIn s.heap → Rd c g v d → Rd c g w e → A.units + n < cLine → Both A s v w b := by
  induction n with
  | zero => exact fun q A g s v w k hv hw hu => EqI.both q hv hw
  | succ n ih =>
    intro d e b q A g s v w k hv hw hu
    have hu' : A.units < cLine := Nat.lt_of_le_of_lt (Nat.le_add_right _ _) hu
    have q0 := q
    rcases q with q | ⟨ds, es, q, hde⟩
    · exact q.both hv hw
    have hin : A.in1.units + n < cLine := by simp only [Around.in1_units]; omega
    have key : ∀ {vs ws : List Value} {e : Nat → Bool}, (∀ j v w, vs[j]? = some v → ws[j]? = some w → ∃ d d', EqD n d d' (e j) ∧ Rd c g v d ∧ Rd c g w d') →
        ∀ j (h1 : j < vs.toArray.size) (h2 : j < ws.toArray.size), EqAt A.in1 s vs.toArray[j] ws.toArray[j] (e j) := fun f j h1 h2 => by
      obtain ⟨d, d', q, r, r'⟩ := f j _ _ (List.getElem?_eq_getElem (by simpa using h1)) (List.getElem?_eq_getElem (by simpa using h2))
      simpa using (ih q k r r' hin).2.1
    rcases hde with ⟨rfl, rfl⟩ | ⟨rfl, rfl⟩
    · obtain ⟨a, vs, rfl, h1, r1⟩ := hv.inv
      obtain ⟨a', ws, rfl, h2, r2⟩ := hw.inv
      obtain ⟨e, f1, f2, f3, f4⟩ := q.items r1 r2
      have t1 := RcAt.tuples (isTuple_up k h1) (isTuple_up k h2) hu' (key f1)
      have t2 := RcNeAt.tuples (isTuple_up k h1) (isTuple_up k h2) hu' (key f1)
      simp only [size_eq, f2] at t1 t2
      exact both_refs (fun e => q0.same (.tup h1 r1) (e ▸ .tup h2 r2)) ⟨t1, t2⟩
    · obtain ⟨a, vs, rfl, h1, r1⟩ := hv.inv
      obtain ⟨a', ws, rfl, h2, r2⟩ := hw.inv
      obtain ⟨e, f1, f2, f3, f4⟩ := q.items r1 r2
      refine both_refs (fun e => q0.same (.lst h1 r1) (e ▸ .lst h2 r2)) ?_
      by_cases hsz : vs.length = ws.length
      · have t1 := RcAt.lists (isList_up k h1) (isList_up k h2) (by simpa using hsz) hu' (key f1)
        have t2 := RcNeAt.lists (isList_up k h1) (isList_up k h2) (by simpa using hsz) hu' (key f1)
        simp only [size_eq, f3 hsz] at t1 t2
        exact ⟨t1, t2⟩
      · rw [f4 hsz]
        exact ⟨RcAt.lists_lengths (isList_up k h1) (isList_up k h2) (by simpa using hsz) hu', RcNeAt.lists_lengths (isList_up k h1) (isList_up k h2) (by simpa using hsz) hu'⟩

variable {c : Cx} {a : Act} {g : Heap} {s : Shared} {σ : Sg}
theorem St.room (H : St c a g s σ) : a.A.units + 64 < cLine := by have := H.ok.units; show _ < 9900; omega
theorem Bin.eq {x y : D} {b : Bool} (q : EqD 8 x y b) : Bin c a σ (compareOp .Eq) x y (.bool b) := .mk fun g s v w H hv hw =>
  (q.both H.stays hv hw (by have := H.room; omega)).1 _ _ _ _ ⟨g, Mv.refl H.stays, .bool b⟩
theorem Bin.ne {x y : D} {b : Bool} (q : EqD 8 x y b) : Bin c a σ (compareOp .NotEq) x y (.bool (!b)) := .mk fun g s v w H hv hw =>
  (q.both H.stays hv hw (by have := H.room; omega)).2.2 _ _ _ _ ⟨g, Mv.refl H.stays, .bool _⟩
end

section
open PySem PySem.W PySem.Calls PyProof.Rows PySem.SeqAt

theorem is_none_none : compareOp .Is .none .none = pure (.bool true) := by rfl
theorem is_int_none (i t) : compareOp .Is (.int i t) .none = pure (.bool false) := by rfl
theorem isnot_none_none : compareOp .IsNot .none .none = pure (.bool false) := by rfl
theorem isnot_int_none (i t) : compareOp .IsNot (.int i t) .none = pure (.bool true) := by rfl

section
open PySem.Builtin
theorem meets_in_int (b : Array UInt8) (u : Tok) (i : Int) (t : Tok) : Meets (Builtin.«bytes.__contains__» ⟨[.bytes b u, .int i t], []⟩)
    (fun A R s => 0 ≤ i ∧ i < 256 ∧ R (.ok (.ret (.bool (b.contains i.toNat.toUInt8)))) s) := by
  intro prog w A R s h
  obtain ⟨h0, h1, h⟩ := h
  show wpAny _ _ (Bytes.containsIn "bytes.__contains__" (.bytes b u) (.int i t) >>= fun x => ret (.bool x)) _ _ s
  refine wpAny_bind ?_
  unfold Bytes.containsIn
  refine wpAny_bind (wpAny_attempt ?_)
  unfold asIndex
  refine wpAny_bind (wpAny_of_eq (a := some i) rfl (wpAny_pure ?_))
  refine wpAny_bind (wpAny_of_eq KBy.buffer_eq ?_)
  dsimp only
  rw [if_neg (by simp only [Bool.or_eq_true, decide_eq_true_eq]; omega)]
  exact wpAny_pure (wpAny_pure h)

theorem typeName_bytes : typeName (.type "bytes") = pure "bytes" := by unfold typeName; rw [find?_eq_fast]; kernel_rfl
theorem no_index_bytes : typeLookup (.type "bytes") "__index__" = pure .none := by rw [typeLookup_type, builtinLookup_eq_fast]; kernel_rfl
theorem cut_bytes {prog : Program} {w : World} {A : Around} {E : Value → Shared → Prop} {s : Shared} {x : Array UInt8} {t : Tok} {n : Nat} {Q : String → Shared → Prop} (h : Q "bytes" s) : wpAny (model prog w) A (typeNameOfCut n (.bytes x t)) Q E s := by
  unfold typeNameOfCut shownTypeOf
  refine wpAny_bind (wpAny_bind (wpAny_typeOf (typeIs_bytes _ x t) ?_))
  simp only [show (Value.type "bytes" == Value.type "builtin_function_or_method") = false by decide, Bool.false_eq_true, if_false]
  refine wpAny_pure ?_
  rw [show typeNameCut n (.type "bytes") = typeName (.type "bytes") from rfl, typeName_bytes]
  exact wpAny_pure h

theorem meets_in_bytes (b : Array UInt8) (u : Tok) (x : Array UInt8) (t : Tok) : Meets (Builtin.«bytes.__contains__» ⟨[.bytes b u, .bytes x t], []⟩)
    (fun A R s => A.handled = .none ∧ ∀ h' k, (∀ b o, s.heap.get? b = some o → h'.get? b = some o) → R (.ok (.ret (.bool (Bytes.find? b x 0 b.size).isSome))) { s with heap := h', toks := k }) := by
  intro prog w A R s h
  obtain ⟨hh, h⟩ := h
  show wpAny _ _ (Bytes.containsIn "bytes.__contains__" (.bytes b u) (.bytes x t) >>= fun x => ret (.bool x)) _ _ s
  refine wpAny_bind ?_
  unfold Bytes.containsIn
  refine wpAny_bind (wpAny_attempt ?_)
  unfold asIndex
  refine wpAny_bind (wpAny_of_eq (a := .none) rfl ?_)
  have hs : callSpecial? (.bytes x t) "__index__" [] = pure .none := by
    unfold callSpecial?
    rw [KBy.special_eq no_index_bytes]
    rfl
  refine wpAny_bind (wpAny_of_eq hs ?_)
  refine wpAny_bind (cut_bytes ?_)
  refine raiseError_exc (A := A.in1) excClass_TypeError hh (fun h' tk e he => ?_) (by rw [sizeLine_eq, PySem.ofString_length]; decide +kernel)
  refine wpAny_bind (wpAny_of_eq KBy.buffer_eq ?_)
  refine wpAny_bind (wpAny_of_eq KBy.buffer_eq ?_)
  exact wpAny_bind (wpAny_rule (wpAny_pure (wpAny_pure (h h' tk he.keeps))))
end

variable {c : Cx} {a : Act} {g : Heap} {s : Shared} {σ : Sg}

theorem Bin.ofPure {t : Value → Value → Sem Value} {x y z : D} (h : ∀ g v w, Rd c g v x → Rd c g w y → ∃ r, t v w = pure r ∧ Rd c g r z) : Bin c a σ t x y z := .mk fun g s v w H hv hw => by
  obtain ⟨r, e, q⟩ := h g v w hv hw
  rw [e]
  exact wpAny_pure ⟨g, Mv.refl H.stays, q⟩
theorem Bin.isNN : Bin c a σ (compareOp .Is) .none .none (.bool true) := .ofPure fun g v w h h' => by obtain rfl := h.inv; obtain rfl := h'.inv; exact ⟨_, is_none_none, .bool _⟩
theorem Bin.isIN (i : Int) : Bin c a σ (compareOp .Is) (.int i) .none (.bool false) := .ofPure fun g v w h h' => by obtain ⟨_, rfl⟩ := h.inv; obtain rfl := h'.inv; exact ⟨_, is_int_none _ _, .bool _⟩
theorem Bin.isnotNN : Bin c a σ (compareOp .IsNot) .none .none (.bool false) := .ofPure fun g v w h h' => by obtain rfl := h.inv; obtain rfl := h'.inv; exact ⟨_, isnot_none_none, .bool _⟩
theorem Bin.isnotIN (i : Int) : Bin c a σ (compareOp .IsNot) (.int i) .none (.bool true) := .ofPure fun g v w h h' => by obtain ⟨_, rfl⟩ := h.inv; obtain rfl := h'.inv; exact ⟨_, isnot_int_none _ _, .bool _⟩

theorem Bin.add (i j : Int) : Bin c a σ (binaryOp .Add) (.int i) (.int j) (.int (i + j)) := .mk fun g s v w H hv hw => by
  obtain ⟨_, rfl⟩ := hv.inv; obtain ⟨_, rfl⟩ := hw.inv; exact add_int ⟨g, Mv.toks H.stays _, .int _ _⟩
theorem Bin.sub (i j : Int) : Bin c a σ (binaryOp .Sub) (.int i) (.int j) (.int (i - j)) := .mk fun g s v w H hv hw => by
  obtain ⟨_, rfl⟩ := hv.inv; obtain ⟨_, rfl⟩ := hw.inv; exact sub_int ⟨g, Mv.toks H.stays _, .int _ _⟩
theorem Bin.mul (i j : Int) (h : IntMulOk i j) : Bin c a σ (binaryOp .Mult) (.int i) (.int j) (.int (i * j)) := .mk fun g s v w H hv hw => by
  obtain ⟨_, rfl⟩ := hv.inv; obtain ⟨_, rfl⟩ := hw.inv; exact mul_int ⟨g, Mv.toks H.stays _, .int _ _⟩ h
theorem Bin.mod (i j : Int) (h : j ≠ 0) : Bin c a σ (binaryOp .Mod) (.int i) (.int j) (.int (i.fmod j)) := .mk fun g s v w H hv hw => by
  obtain ⟨_, rfl⟩ := hv.inv; obtain ⟨_, rfl⟩ := hw.inv; exact mod_int' h ⟨g, Mv.toks H.stays _, .int _ _⟩
theorem Bin.div (i j : Int) (h : j ≠ 0) (h' : PySem.Builtin.divisionGoesByPylong i j = false) : Bin c a σ (binaryOp .FloorDiv) (.int i) (.int j) (.int (i.fdiv j)) := .mk fun g s v w H hv hw => by
  obtain ⟨_, rfl⟩ := hv.inv; obtain ⟨_, rfl⟩ := hw.inv; exact floordiv_int h ⟨g, Mv.toks H.stays _, .int _ _⟩ (.inl h')
theorem Bin.addStr (x y : PySem.Str) (h : x.length + y.length ≤ sizeLine) : Bin c a σ (binaryOp .Add) (.str x) (.str y) (.str (x ++ y)) := .mk fun g s v w H hv hw => by
  obtain ⟨_, rfl⟩ := hv.inv; obtain ⟨_, rfl⟩ := hw.inv; exact add_str (fun t k => ⟨g, Mv.toks H.stays _, .str _ _⟩) h
theorem Bin.lt (i j : Int) : Bin c a σ (compareOp .Lt) (.int i) (.int j) (.bool (decide (i < j))) := .mk fun g s v w H hv hw => by
  obtain ⟨_, rfl⟩ := hv.inv; obtain ⟨_, rfl⟩ := hw.inv; exact lt_int ⟨g, Mv.refl H.stays, .bool _⟩
theorem Bin.le (i j : Int) : Bin c a σ (compareOp .LtE) (.int i) (.int j) (.bool (decide (i ≤ j))) := .mk fun g s v w H hv hw => by
  obtain ⟨_, rfl⟩ := hv.inv; obtain ⟨_, rfl⟩ := hw.inv; exact le_int ⟨g, Mv.refl H.stays, .bool _⟩
theorem Bin.gt (i j : Int) : Bin c a σ (compareOp .Gt) (.int i) (.int j) (.bool (decide (j < i))) := .mk fun g s v w H hv hw => by
  obtain ⟨_, rfl⟩ := hv.inv; obtain ⟨_, rfl⟩ := hw.inv; exact gt_int ⟨g, Mv.refl H.stays, .bool _⟩
theorem Bin.ge (i j : Int) : Bin c a σ (compareOp .GtE) (.int i) (.int j) (.bool (decide (j ≤ i))) := .mk fun g s v w H hv hw => by
  obtain ⟨_, rfl⟩ := hv.inv; obtain ⟨_, rfl⟩ := hw.inv; exact ge_int ⟨g, Mv.refl H.stays, .bool _⟩

theorem new_at_size {h : Heap} : h.get? h.objs.size = .none := by
  cases e : h.get? h.objs.size with
  | none => rfl
  | some o => exact absurd (Heap.lt_size e) (Nat.lt_irrefl _)
theorem St.off (H : St c a g s σ) : ∃ L m, L ∈ a.F ∧ g.get? L = .none ∧ s.heap.Ns L m := by
  obtain ⟨fenv, outer, h1, h2, h3⟩ := H.ok.frames
  obtain ⟨l, hl, hF, hfr⟩ := H.fr
  rw [h1] at hl; cases hl
  obtain ⟨_, L, m, hf, hg, hn⟩ := hfr fenv (.head _)
  exact ⟨L, m, hF ▸ mem_framesOf (.head _) hf, hg, hn⟩

theorem Bin.addList {xs ys : List D} (h : xs.length + ys.length ≤ 1000) : Bin c a σ (binaryOp .Add) (.lst xs) (.lst ys) (.lst (xs ++ ys)) := .mk fun g s v w H hv hw => by
  obtain ⟨a1, vs, rfl, h1, r1⟩ := hv.inv
  obtain ⟨a2, ws, rfl, h2, r2⟩ := hw.inv
  obtain ⟨L, m, hL, hg, n⟩ := H.off
  refine add_arrays (kFr n) (restNews s.heap L) (isList_up H.stays h1) (isList_up H.stays h2) (fun h' F' N' => ?_) (by rw [sizeLine_eq]; simp only [List.size_toArray]; rw [r1.length, r2.length]; omega)
  have m' := mv_of_K (k := s.toks) H.stays hL hg n F' (ext := [_]) N' [s.heap.objs.size] (by simp [new_at_size])
  refine ⟨_, m', .lst ⟨_, addTo_new (N' _ (.head _)).1 (by simp), rfl, 0, ?_⟩ ((r1.up m'.gg).append (r2.up m'.gg))⟩
  simp

theorem Bin.inBytesInt (b : List UInt8) (i : Int) (h0 : 0 ≤ i) (h1 : i < 256) : Bin c a σ (compareOp .In) (.int i) (.bytes b) (.bool (b.contains i.toNat.toUInt8)) := .mk fun g s v w H hv hw => by
  obtain ⟨_, rfl⟩ := hv.inv
  obtain ⟨_, rfl⟩ := hw.inv
  refine SeqRoads2.in_meets (typeIs_bytes _ _ _) FB.slot_bytes_contains FB.entry_bytes_contains (FB.args_bytes_contains_2 _ _) (meets_in_int _ _ _ _) ⟨h0, h1, _, rfl, g, Mv.refl H.stays, ?_⟩
  simpa using Rd.bool _
theorem Bin.notInBytesInt (b : List UInt8) (i : Int) (h0 : 0 ≤ i) (h1 : i < 256) : Bin c a σ (compareOp .NotIn) (.int i) (.bytes b) (.bool (!b.contains i.toNat.toUInt8)) := .mk fun g s v w H hv hw => by
  obtain ⟨_, rfl⟩ := hv.inv
  obtain ⟨_, rfl⟩ := hw.inv
  refine SeqRoads2.notIn_meets (typeIs_bytes _ _ _) FB.slot_bytes_contains FB.entry_bytes_contains (FB.args_bytes_contains_2 _ _) (meets_in_int _ _ _ _) ⟨h0, h1, _, rfl, g, Mv.refl H.stays, ?_⟩
  simpa using Rd.bool _
theorem Bin.inBytes (b x : List UInt8) : Bin c a σ (compareOp .In) (.bytes x) (.bytes b) (.bool (PySem.Builtin.Bytes.find? b.toArray x.toArray 0 b.length).isSome) := .mk fun g s v w H hv hw => by
  obtain ⟨_, rfl⟩ := hv.inv
  obtain ⟨_, rfl⟩ := hw.inv
  refine SeqRoads2.in_meets (typeIs_bytes _ _ _) FB.slot_bytes_contains FB.entry_bytes_contains (FB.args_bytes_contains_2 _ _) (meets_in_bytes _ _ _ _) ⟨H.ok.hd, fun h' k hk => ⟨_, rfl, g, Mv.same H.stays hk, ?_⟩⟩
  simpa using Rd.bool _

noncomputable def isB (x : List UInt8) : Value → Bool
  | .bytes b _ => b.toList == x
  | _ => false
noncomputable def isI (x : Int) : Value → Bool
  | .int b _ => b == x
  | _ => false
theorem row_bytes {x : List UInt8} {t : Tok} {xs : List (List UInt8)} : ∀ {A : Around} {g : Heap} {s : Shared} {vs : List Value}, RdAll c g vs (xs.map .bytes) → (∀ y ∈ vs, EqAt A s y (.bytes x.toArray t) (isB x y)) ∧ vs.any (isB x) = xs.contains x := by
  induction xs with
  | nil => intro A g s vs h; obtain rfl := h.inv; exact ⟨(fun _ h => nomatch h), rfl⟩
  | cons b xs ih =>
    intro A g s vs h
    · obtain ⟨_, vs, rfl, h, r⟩ := h.inv
      obtain ⟨u, rfl⟩ := h.inv
      obtain ⟨f1, f2⟩ := ih (A := A) (s := s) r
      refine ⟨fun y hy => ?_, ?_⟩
      · rcases List.mem_cons.mp hy with rfl | hy
        · simpa [isB] using EqAt.bytes_bytes (A := A) (s := s) b x u t
        · exact f1 y hy
      · rw [List.any_cons, f2, List.contains_cons]
        congr 1
        simp only [isB, List.toList_toArray]
        rw [Bool.eq_iff_iff, beq_iff_eq, beq_iff_eq]
        exact eq_comm
theorem row_ints {x : Int} {t : Tok} {xs : List Int} : ∀ {A : Around} {g : Heap} {s : Shared} {vs : List Value}, RdAll c g vs (xs.map .int) → (∀ y ∈ vs, EqAt A s y (.int x t) (isI x y)) ∧ vs.any (isI x) = xs.contains x := by
  induction xs with
  | nil => intro A g s vs h; obtain rfl := h.inv; exact ⟨(fun _ h => nomatch h), rfl⟩
  | cons b xs ih =>
    intro A g s vs h
    · obtain ⟨_, vs, rfl, h, r⟩ := h.inv
      obtain ⟨u, rfl⟩ := h.inv
      obtain ⟨f1, f2⟩ := ih (A := A) (s := s) r
      refine ⟨fun y hy => ?_, ?_⟩
      · rcases List.mem_cons.mp hy with rfl | hy
        · exact (MeetsSeq.EqGives.int b x u t).at A s
        · exact f1 y hy
      · rw [List.any_cons, f2, List.contains_cons]
        congr 1
        simp only [isI]
        rw [Bool.eq_iff_iff, beq_iff_eq, beq_iff_eq]
        exact eq_comm

theorem Bin.inTupB (x : List UInt8) (xs : List (List UInt8)) : Bin c a σ (compareOp .In) (.bytes x) (.tup (xs.map .bytes)) (.bool (xs.contains x)) := .mk fun g s v w H hv hw => by
  obtain ⟨t, rfl⟩ := hv.inv
  obtain ⟨l, vs, rfl, h, r⟩ := hw.inv
  obtain ⟨f1, f2⟩ := row_bytes (c := c) (x := x) (t := t) (A := a.A.in1) (s := s) r
  refine in_tupleAt (isB x) (isTuple_up H.stays h) (fun y hy => f1 y (by simpa using hy)) ⟨g, Mv.refl H.stays, ?_⟩
  simp only [List.any_toArray, f2]; exact .bool _
theorem Bin.notInTupB (x : List UInt8) (xs : List (List UInt8)) : Bin c a σ (compareOp .NotIn) (.bytes x) (.tup (xs.map .bytes)) (.bool (!xs.contains x)) := .mk fun g s v w H hv hw => by
  obtain ⟨t, rfl⟩ := hv.inv
  obtain ⟨l, vs, rfl, h, r⟩ := hw.inv
  obtain ⟨f1, f2⟩ := row_bytes (c := c) (x := x) (t := t) (A := a.A.in1) (s := s) r
  refine notIn_tupleAt (isB x) (isTuple_up H.stays h) (fun y hy => f1 y (by simpa using hy)) ⟨g, Mv.refl H.stays, ?_⟩
  simp only [List.any_toArray, f2]; exact .bool _
theorem Bin.inTupI (x : Int) (xs : List Int) : Bin c a σ (compareOp .In) (.int x) (.tup (xs.map .int)) (.bool (xs.contains x)) := .mk fun g s v w H hv hw => by
  obtain ⟨t, rfl⟩ := hv.inv
  obtain ⟨l, vs, rfl, h, r⟩ := hw.inv
  obtain ⟨f1, f2⟩ := row_ints (c := c) (x := x) (t := t) (A := a.A.in1) (s := s) r
  refine in_tupleAt (isI x) (isTuple_up H.stays h) (fun y hy => f1 y (by simpa using hy)) ⟨g, Mv.refl H.stays, ?_⟩
  simp only [List.any_toArray, f2]; exact .bool _

theorem mem_of_lookup' {α : Type} {b : Addr} {d : α} : ∀ {l : List (Addr × α)}, l.lookup b = some d → (b, d) ∈ l
  | (k, v) :: r, h => by
    rw [List.lookup_cons] at h
    cases hb : b == k with
    | true => rw [hb] at h; cases h; rw [beq_iff_eq.mp hb]; exact .head _
    | false => rw [hb] at h; exact .tail _ (mem_of_lookup' h)
theorem St.owned (H : St c a g s σ) {b : Addr} {d : D} (h : σ.own.lookup b = some d) : OwnAt c g s.heap b d := H.own.at_ (b, d) (mem_of_lookup' h)

theorem Bin.inOwnB (x : List UInt8) (xs : List (List UInt8)) (b : Addr) (h : σ.own.lookup b = some (.lst (xs.map .bytes))) : Bin c a σ (compareOp .In) (.bytes x) (.adr b) (.bool (xs.contains x)) := .mk fun g s v w H hv hw => by
  obtain ⟨t, rfl⟩ := hv.inv
  obtain rfl := hw.inv
  obtain ⟨vs, h, r⟩ := (H.owned h).inv
  obtain ⟨f1, f2⟩ := row_bytes (c := c) (x := x) (t := t) (A := a.A.in1) (s := s) r
  refine in_listAt (isB x) h.isList (fun y hy => f1 y (by simpa using hy)) ⟨g, Mv.refl H.stays, ?_⟩
  simp only [List.any_toArray, f2]; exact .bool _
end

section
open PySem PySem.W PySem.Calls PyProof.Rows PySem.SeqAt
variable {c : Cx} {a : Act} {g : Heap} {s : Shared} {σ : Sg}

/-! dicts -/
theorem RdKv.at {kvs : List (List UInt8 × Value)} {ds : List (List UInt8 × D)} (r : RdKv c g kvs ds) (k : List UInt8) :
    match ds.lookup k with | some d => ∃ v, valueAt kvs k = some v ∧ Rd c g v d | Option.none => valueAt kvs k = .none := by
  induction ds generalizing kvs with
  | nil => obtain rfl := r.inv; rfl
  | cons p ds ih =>
    obtain ⟨k', d⟩ := p
    · obtain ⟨v, vs, rfl, h, r⟩ := r.inv
      by_cases hk : k = k'
      · subst hk
        simp only [List.lookup_cons, beq_self_eq_true]
        exact ⟨v, by simp [valueAt], h⟩
      · have e : (k == k') = false := by simpa using hk
        simp only [List.lookup_cons, e]
        have e2 : valueAt ((k', v) :: vs) k = valueAt vs k := by simp [valueAt, Ne.symm hk]
        rw [e2]
        exact ih r
theorem RdKv.isSome {kvs : List (List UInt8 × Value)} {ds : List (List UInt8 × D)} (r : RdKv c g kvs ds) (k : List UInt8) : (valueAt kvs k).isSome = (ds.lookup k).isSome := by
  have := r.at k
  cases h : ds.lookup k with
  | none => rw [h] at this; rw [this]; rfl
  | some d => rw [h] at this; obtain ⟨v, e, _⟩ := this; rw [e]; rfl
theorem RdKv.length {kvs : List (List UInt8 × Value)} {ds : List (List UInt8 × D)} (r : RdKv c g kvs ds) : kvs.length = ds.length := by
  induction ds generalizing kvs with
  | nil => obtain rfl := r.inv; rfl
  | cons p ds ih => cases r with | cons h r => simp [ih r]
theorem key_is (k : List UInt8) (t : Tok) : (bytesKind c.prog c.w).is k (.bytes k.toArray t) = true := bytesKind_is _ _ _ _

theorem Bin.inDct (k : List UInt8) (l : List (List UInt8 × D)) : Bin c a σ (compareOp .In) (.bytes k) (.dct l) (.bool (l.lookup k).isSome) := .mk fun g s v w H hv hw => by
  obtain ⟨_, rfl⟩ := hv.inv
  · obtain ⟨_, _, rfl, h, r, n⟩ := hw.inv
    refine wpAny_in_of (key_is k _) n (h.keep H.stays).mapOf ⟨g, Mv.toks H.stays _, ?_⟩
    rw [r.isSome]; exact .bool _
theorem Bin.notInDct (k : List UInt8) (l : List (List UInt8 × D)) : Bin c a σ (compareOp .NotIn) (.bytes k) (.dct l) (.bool (!(l.lookup k).isSome)) := .mk fun g s v w H hv hw => by
  obtain ⟨_, rfl⟩ := hv.inv
  · obtain ⟨_, _, rfl, h, r, n⟩ := hw.inv
    refine wpAny_notIn_of (key_is k _) n (h.keep H.stays).mapOf ⟨g, Mv.toks H.stays _, ?_⟩
    rw [r.isSome]; exact .bool _
theorem Bin.inOwnDct (k : List UInt8) (l : List (List UInt8 × D)) (b : Addr) (h : σ.own.lookup b = some (.dct l)) : Bin c a σ (compareOp .In) (.bytes k) (.adr b) (.bool (l.lookup k).isSome) := .mk fun g s v w H hv hw => by
  obtain ⟨_, rfl⟩ := hv.inv
  obtain rfl := hw.inv
  · obtain ⟨_, h, r, n⟩ := (H.owned h).inv
    refine wpAny_in_of (key_is k _) n h.mapOf ⟨g, Mv.toks H.stays _, ?_⟩
    rw [r.isSome]; exact .bool _

/-! items -/
/-- x[y] is z -/
noncomputable def Sub (c : Cx) (a : Act) (σ : Sg) (value slice : Expr) (x y z : D) : Prop := Bin c a σ (subscriptTail value slice) x y z
theorem Ev.sub {value slice : Expr} {pos : Pos} {x y z : D} {ω₁ ω₂ : Own} (h1 : Ev c a σ value (.ok (x, ω₁))) (h2 : Ev c a ⟨σ.loc, ω₁⟩ slice (.ok (y, ω₂))) (h3 : Sub c a ⟨σ.loc, ω₂⟩ value slice x y z) :
    Ev c a σ (.Subscript value slice pos) (.ok (z, ω₂)) := .mk fun g s H => by
  refine Subscript_ (h1.then H (fun v s₁ g₁ k₁ H₁ r₁ => ?_))
  refine h2.then H₁ (fun w s₂ g₂ k₂ H₂ r₂ => ?_)
  refine wpAny_mono (h3.run g₂ s₂ v w H₂ (r₁.up k₂) r₂) (fun z' s₃ h => ?_) fun _ _ e => e.elim
  obtain ⟨g₃, m, r₃⟩ := h
  exact ⟨_, _, rfl, g₃, fun b o e => m.gg b o (k₂ b o (k₁ b o e)), H₂.move m, r₃⟩

noncomputable def notSlice : Expr → Bool
  | .Slice .. => false
  | _ => true
theorem sub_hs {slice : Expr} {o : Value} {i : Int} {u : Tok} (h : notSlice slice = true) : subscripted slice false o (.int i u) = operate [o, .int i u] (getItem o (.int i u)) := by
  cases slice <;> first | rfl | cases h
theorem sub_hs' {slice : Expr} {o i : Value} (h : notSlice slice = true) : subscripted slice false o i = operate [o, i] (getItem o i) := by
  cases slice <;> first | rfl | cases h

theorem Sub.lst {value slice : Expr} {l : List D} {i : Int} {d : D} (h0 : 0 ≤ i) (h1 : i < 2 ^ 63) (e : l[i.toNat]? = some d) (hs : notSlice slice = true := by rfl) :
    Sub c a σ value slice (.lst l) (.int i) d := .mk fun g s v w H hv hw => by
  obtain ⟨_, rfl⟩ := hw.inv
  · obtain ⟨_, _, rfl, h, r⟩ := hv.inv
    obtain ⟨x, e', q⟩ := r.get e
    have hl := isList_up H.stays h
    exact tail_any hl.typeIs slot_list_getitem.lookup (wpAny_getItem_list hl h0 h1 (by simpa using e') ⟨g, Mv.refl H.stays, q⟩) (sub_hs hs)
theorem Sub.lstNeg {value slice : Expr} {l : List D} {d : D} (e : l[l.length - 1]? = some d) (hs : notSlice slice = true := by rfl) :
    Sub c a σ value slice (.lst l) (.int (-1)) d := .mk fun g s v w H hv hw => by
  obtain ⟨_, rfl⟩ := hw.inv
  · obtain ⟨_, vs, rfl, h, r⟩ := hv.inv
    obtain ⟨x, e', q⟩ := r.get e
    have hl := isList_up H.stays h
    have hlen := r.length
    have hne : 0 < l.length := by
      cases l with
      | nil => simp at e
      | cons => simp
    refine tail_any hl.typeIs slot_list_getitem.lookup (wpAny_getItem_list_neg hl (by decide) ?_ (by decide) ?_ ⟨g, Mv.refl H.stays, q⟩) (sub_hs hs)
    · simp only [List.size_toArray]; omega
    · have e2 : ((-1 : Int) + (vs.toArray.size : Int)).toNat = l.length - 1 := by simp only [List.size_toArray]; omega
      rw [e2]; simpa using e'
theorem Sub.tup {value slice : Expr} {l : List D} {i : Int} {d : D} (h0 : 0 ≤ i) (h1 : i < 2 ^ 63) (e : l[i.toNat]? = some d) (hs : notSlice slice = true := by rfl) :
    Sub c a σ value slice (.tup l) (.int i) d := .mk fun g s v w H hv hw => by
  obtain ⟨_, rfl⟩ := hw.inv
  · obtain ⟨_, _, rfl, h, r⟩ := hv.inv
    obtain ⟨x, e', q⟩ := r.get e
    have hl := isTuple_up H.stays h
    have hlt : i.toNat < l.length := (List.getElem?_eq_some_iff.mp e).1
    refine item_tupleT (j := i.toNat) hl (by omega) h1 ?_ e' ⟨g, Mv.refl H.stays, q⟩ (sub_hs hs)
    unfold seqIndex?
    rw [r.length]
    have : ¬ i < 0 := by omega
    simp only [this, if_false]
    have h3 : (decide (0 ≤ i) && decide (i < (l.length : Int))) = true := by simp; omega
    rw [h3]; rfl
theorem Sub.dct {value slice : Expr} {l : List (List UInt8 × D)} {k : List UInt8} {d : D} (e : l.lookup k = some d) (hs : notSlice slice = true := by rfl) :
    Sub c a σ value slice (.dct l) (.bytes k) d := .mk fun g s v w H hv hw => by
  obtain ⟨_, rfl⟩ := hw.inv
  · obtain ⟨_, _, rfl, h, r, n⟩ := hv.inv
    have := r.at k
    rw [e] at this
    obtain ⟨v, e', q⟩ := this
    have hm := h.keep H.stays
    exact tail_any hm.typeIs slot_dict_getitem.lookup (wpAny_getItem_of (key_is k _) hm.mapOf e' ⟨g, Mv.toks H.stays _, q⟩) (sub_hs' hs)

/-! slices -/
noncomputable def lowOf (lo : Option Int) (n : Nat) : Nat := lo.elim 0 (clipAt n)
noncomputable def highOf (hi : Option Int) (n : Nat) : Nat := hi.elim n (clipAt n)
noncomputable def cutOf {α : Type} (l : List α) (lo hi : Option Int) : List α := (l.drop (lowOf lo l.length)).take (highOf hi l.length - lowOf lo l.length)

theorem ints_inj : ∀ {l m : List UInt8}, (l.map fun c => (c.toNat : Int)) = m.map (fun c => (c.toNat : Int)) → l = m
  | [], [], _ => rfl
  | [], _ :: _, h => by simp at h
  | _ :: _, [], h => by simp at h
  | x :: l, y :: m, h => by
    simp only [List.map_cons, List.cons.injEq] at h
    have : x = y := UInt8.toNat_inj.mp (by omega)
    rw [this, ints_inj h.2]

/-- an end of a slice: none, or an int -/
structure Part (c : Cx) (a : Act) (σ : Sg) (e : Option Expr) (lo : Option Int) : Prop where
  run : ∀ g s, St c a g s σ → wpAny c.M a.A (evalPart e a.env) (fun v s' => Mv a.F [] g s g s' ∧ IsPart v lo) (fun _ _ => False) s
theorem Part.none : Part c a σ .none .none := .mk fun g s H => by rw [evalPart_none]; exact wpAny_pure ⟨Mv.refl H.stays, .none⟩
theorem Part.int {e : Expr} {i : Int} (h : ∀ g s, St c a g s σ → wpAny c.M a.A (eval e a.env) (fun v s' => Mv a.F [] g s g s' ∧ ∃ t, v = .int i t) (fun _ _ => False) s) : Part c a σ (some e) (some i) := .mk fun g s H => by
  rw [evalPart_some]
  exact wpAny_mono (h g s H) (fun v s' ⟨m, t, e⟩ => ⟨m, e ▸ .int i t⟩) fun _ _ f => f
theorem Part.lit (i : Int) (k pos) : Part c a σ (some (.Constant (.int i) k pos)) (some i) := .int fun g s H => wpAny_Constant_int ⟨Mv.toks H.stays _, _, rfl⟩
theorem Part.neg (i : Int) (k pos pos') : Part c a σ (some (.UnaryOp .USub (.Constant (.int i) k pos) pos')) (some (-i)) := .int fun g s H =>
  UnaryOp_ (wpAny_Constant_int (neg_int ⟨(Mv.toks H.stays _).trans (Mv.toks (s := { s with toks := s.toks + 1 }) H.stays _), _, rfl⟩))
theorem name_int {x : PySem.Str} {pos : Pos} {i : Int} {M : Model} {E : Value → Shared → Prop} {Q : Value → Shared → Prop} (H : St c a g s σ) (h : σ.loc.lookup x = some (.int i)) (hd : (x == ("__debug__" : PySem.Str)) = false) (hc : (x == ("__classdict__" : PySem.Str)) = false)
    (q : ∀ t, Q (.int i t) s) : wpAny M a.A (eval (.Name x pos) a.env) Q E s := by
  obtain ⟨v, hn, hr⟩ := H.loc x _ h
  obtain ⟨_, rfl⟩ := hr.inv
  refine wpAny_Name ?_ hd
  cases hn with
  | loc k n e => exact wpAny_loadName_local H.ok.fn k n e (q _)
  | cell k l e =>
    rcases k with k | k
    · exact wpAny_loadName_cell H.ok.fn k l e (q _)
    · exact wpAny_loadName_free H.ok.fn k l e (q _) hc
theorem Part.name {x : PySem.Str} {pos : Pos} {i : Int} (h : σ.loc.lookup x = some (.int i)) (hd : (x == ("__debug__" : PySem.Str)) = false := by decide) (hc : (x == ("__classdict__" : PySem.Str)) = false := by decide) : Part c a σ (some (.Name x pos)) (some i) := .int fun g s H =>
  name_int H h hd hc fun t => ⟨Mv.refl H.stays, t, rfl⟩
theorem Part.nameAdd {x : PySem.Str} {pos pos' : Pos} {i j : Int} {k pos''} (h : σ.loc.lookup x = some (.int i)) (hd : (x == ("__debug__" : PySem.Str)) = false := by decide) (hc : (x == ("__classdict__" : PySem.Str)) = false := by decide) :
    Part c a σ (some (.BinOp (.Name x pos) .Add (.Constant (.int j) k pos'') pos')) (some (i + j)) := .int fun g s H =>
  wpAny_BinOp (name_int H h hd hc fun t => wpAny_Constant_int (add_int ⟨(Mv.toks H.stays _).trans (Mv.toks (s := { s with toks := s.toks + 1 }) H.stays _), _, rfl⟩))

theorem mv_push {F : List Addr} {o : Obj} (k : g.StaysIn s.heap) : Mv F [] g s g { s with heap := s.heap.push o } := Mv.same k fun b o' e => Heap.get?_push_of_some _ e

theorem Ev.slice {value : Expr} {lo hi : Option Expr} {p pos : Pos} {x z : D} {l u : Option Int} {ω : Own} (h1 : Ev c a σ value (.ok (x, ω))) (h2 : Part c a ⟨σ.loc, ω⟩ lo l) (h3 : Part c a ⟨σ.loc, ω⟩ hi u)
    (h4 : ∀ g s v vl vu, St c a g s ⟨σ.loc, ω⟩ → Rd c g v x → IsPart vl l → IsPart vu u → wpAny c.M a.A (subscriptTail value (.Slice lo hi .none p) v (.ref s.heap.objs.size)) (fun r s' => ∃ g', Mv a.F [] g s g' s' ∧ Rd c g' r z) (fun _ _ => False)
      { s with heap := s.heap.push { cls := .type "slice", data := .fields #[vl, vu, .none] } }) :
    Ev c a σ (.Subscript value (.Slice lo hi .none p) pos) (.ok (z, ω)) := .mk fun g s H => by
  refine Subscript_ (h1.then H (fun v s₁ g₁ k₁ H₁ r₁ => ?_))
  refine wpAny_Slice (wpAny_mono (h2.run g₁ s₁ H₁) (fun vl s₂ ⟨m₂, pl⟩ => ?_) fun _ _ e => e.elim)
  have H₂ := H₁.move m₂
  refine wpAny_mono (h3.run g₁ s₂ H₂) (fun vu s₃ ⟨m₃, pu⟩ => ?_) fun _ _ e => e.elim
  have H₃ := H₂.move m₃
  rw [evalPart_none]
  refine wpAny_pure (wpAny_mono (h4 g₁ s₃ v vl vu H₃ r₁ pl pu) (fun r s₄ ⟨g₄, m₄, r₄⟩ => ?_) fun _ _ e => e.elim)
  exact ⟨_, _, rfl, g₄, fun b o e => m₄.gg b o (k₁ b o e), H₃.move m₄, r₄⟩

theorem Ev.sliceB {value : Expr} {lo hi : Option Expr} {p pos : Pos} {b : List UInt8} {l u : Option Int} {ω : Own} (h1 : Ev c a σ value (.ok (.bytes b, ω))) (h2 : Part c a ⟨σ.loc, ω⟩ lo l) (h3 : Part c a ⟨σ.loc, ω⟩ hi u) (hz : b.length ≤ 16777216)
    (ht : ∀ b t r, letTemporaryGo value (Value.bytes b t) r = pure () := by intro _ _ _; rfl) :
    Ev c a σ (.Subscript value (.Slice lo hi .none p) pos) (.ok (.bytes (cutOf b l u), ω)) := .slice h1 h2 h3 fun g s v vl vu H hv pl pu => by
  obtain ⟨_, rfl⟩ := hv.inv
  obtain ⟨L, m, hL, hg, n⟩ := H.off
  refine KBc.slice_K (ks := b.map fun c => (c.toNat : Int)) (kFr n) (restNews s.heap L) (KBw.ints_list b) pl pu (by simpa using hz) (fun h' t' k F' N' e => ?_) rfl (ht _ _)
  have m' := mv_of_K (ext := []) (k := k) H.stays hL hg n F' N' [] (by simp)
  have e2 : KBy.picked b.toArray l u = (cutOf b l u).toArray := by
    apply Array.ext'
    apply ints_inj
    have e3 : KBw.bInts (KBy.picked b.toArray l u) = (KBy.picked b.toArray l u).toList.map fun c => (c.toNat : Int) := by
      have := KBw.ints_list (KBy.picked b.toArray l u).toList
      simpa using this
    rw [← e3, e]
    simp [cutOf, lowOf, highOf, List.map_take, List.map_drop]
  rw [e2]
  exact ⟨_, m', .bytes _ _⟩
theorem pick_cut (vs : List Value) (l u : Option Int) : slicePick vs.toArray l u .none = (cutOf vs l u).toArray := by
  have := kmk_pick_nat (lo := l) (hi := u) vs.toArray (a := lowOf l vs.length) (b := highOf u vs.length) (by simpa [lowOf, highOf] using sliceBounds_plain l u vs.length)
  simpa [cutOf] using this
theorem Ev.sliceL {value : Expr} {lo hi : Option Expr} {p pos : Pos} {b : List D} {l u : Option Int} {ω : Own} (h1 : Ev c a σ value (.ok (.lst b, ω))) (h2 : Part c a ⟨σ.loc, ω⟩ lo l) (h3 : Part c a ⟨σ.loc, ω⟩ hi u) (hz : b.length ≤ 1000)
    (ht : ∀ b r, letTemporaryGo value (Value.ref b) r = pure () := by intro _ _; rfl) :
    Ev c a σ (.Subscript value (.Slice lo hi .none p) pos) (.ok (.lst (cutOf b l u), ω)) := .slice h1 h2 h3 fun g s v vl vu H hv pl pu => by
  · obtain ⟨x, vs, rfl, h, r⟩ := hv.inv
    obtain ⟨L, m, hL, hg, n⟩ := H.off
    refine slice_list (kFr n) (restNews s.heap L) (isList_up H.stays h) pl pu (fun h' F' N' => ?_) rfl (ht _) (by rw [sizeLine_eq]; simp only [List.size_toArray]; rw [r.length]; omega)
    have hn : s.heap.get? (s.heap.objs.size + 1) = .none := by
      cases e : s.heap.get? (s.heap.objs.size + 1) with
      | none => rfl
      | some o => exact absurd (Heap.lt_size e) (Nat.not_lt.mpr (Nat.le_succ _))
    have m' := mv_of_K (k := s.toks) H.stays hL hg n F' (ext := [_]) N' [s.heap.objs.size + 1] (by simp [hn])
    refine ⟨_, m', .lst (vs := cutOf vs l u) ⟨_, addTo_new (N' _ (.head _)).1 (by simp), rfl, 0, ?_⟩ ?_⟩
    · rw [pick_cut]
    · have := ((r.up m'.gg).drop (lowOf l b.length)).take (highOf u b.length - lowOf l b.length)
      unfold cutOf
      rw [r.length]
      exact this
end

section
open PySem PySem.W PySem.Calls PyProof.Rows PySem.SeqAt
variable {c : Cx} {a : Act} {g : Heap} {s : Shared} {σ : Sg}

/-! rows of values -/
structure EvAll (c : Cx) (a : Act) (σ : Sg) (pos : Pos) (es : List Expr) (o : Out (List D × Own)) : Prop where
  run : ∀ g s, St c a g s σ → wpAny c.M a.A (spliced (backTo pos (starEach es a.env)))
    (fun vs s' => ∃ ds ω, o = .ok (ds, ω) ∧ ∃ g', g.StaysIn g' ∧ St c a g' s' ⟨σ.loc, ω⟩ ∧ RdAll c g' vs ds) (Er c a g o) s
theorem EvAll.then {pos : Pos} {es : List Expr} {ds : List D} {ω : Own} {Q : List Value → Shared → Prop} {E : Value → Shared → Prop} (h : EvAll c a σ pos es (.ok (ds, ω))) (H : St c a g s σ)
    (q : ∀ vs s₁ g₁, g.StaysIn g₁ → St c a g₁ s₁ ⟨σ.loc, ω⟩ → RdAll c g₁ vs ds → Q vs s₁) : wpAny c.M a.A (spliced (backTo pos (starEach es a.env))) Q E s :=
  wpAny_mono (h.run g s H) (fun v s₁ ⟨_, _, e, g₁, k, H₁, r⟩ => by cases e; exact q v s₁ g₁ k H₁ r) fun _ _ e => (nomatch e.1)
theorem EvAll.args {pos : Pos} {e : Expr} {es : List Expr} {ds : List D} {ω : Own} {Q : List Value → Shared → Prop} {E : Value → Shared → Prop} (h : EvAll c a σ pos (e :: es) (.ok (ds, ω))) (he : starEach (e :: es) a.env = (false, eval e a.env) :: starEach es a.env) (H : St c a g s σ)
    (q : ∀ vs s₁ g₁, g.StaysIn g₁ → St c a g₁ s₁ ⟨σ.loc, ω⟩ → RdAll c g₁ vs ds → Q vs s₁) : wpAny c.M a.A (spliced (backTo pos ((false, eval e a.env) :: starEach es a.env))) Q E s := by
  rw [← he]; exact h.then H q
theorem EvAll.nil {pos : Pos} : EvAll c a σ pos [] (.ok ([], σ.own)) := .mk fun g s H => spliced_nil ⟨[], _, rfl, g, fun _ _ e => e, H, .nil⟩
theorem EvAll.cons {pos : Pos} {e : Expr} {es : List Expr} {d : D} {ds : List D} {ω ω' : Own} (h : Ev c a σ e (.ok (d, ω))) (h2 : EvAll c a ⟨σ.loc, ω⟩ pos es (.ok (ds, ω')))
    (hs : ∀ es, starEach (e :: es) a.env = (false, eval e a.env) :: starEach es a.env := by intro _; rfl) : EvAll c a σ pos (e :: es) (.ok (d :: ds, ω')) := .mk fun g s H => by
  rw [hs]
  refine spliced_cons (h.then H (fun v s₁ g₁ k₁ H₁ r₁ => ?_))
  refine h2.then H₁ (fun vs s₂ g₂ k₂ H₂ r₂ => ?_)
  exact ⟨_, _, rfl, g₂, fun b o e => k₂ b o (k₁ b o e), H₂, .cons (r₁.up k₂) r₂⟩
theorem EvAll.err {pos : Pos} {e : Expr} {es : List Expr} (h : Ev c a σ e .err)
    (hs : ∀ es, starEach (e :: es) a.env = (false, eval e a.env) :: starEach es a.env := by intro _; rfl) : EvAll c a σ pos (e :: es) .err := .mk fun g s H => by
  rw [hs]
  refine spliced_cons (wpAny_mono (h.run g s H) (fun v s₁ h => ?_) fun _ _ e => ⟨rfl, e.2⟩)
  obtain ⟨d, ω, e, _⟩ := h; cases e
theorem EvAll.errR {pos : Pos} {e : Expr} {es : List Expr} {d : D} {ω : Own} (h : Ev c a σ e (.ok (d, ω))) (h2 : EvAll c a ⟨σ.loc, ω⟩ pos es .err)
    (hs : ∀ es, starEach (e :: es) a.env = (false, eval e a.env) :: starEach es a.env := by intro _; rfl) : EvAll c a σ pos (e :: es) .err := .mk fun g s H => by
  rw [hs]
  refine spliced_cons (h.then H (fun v s₁ g₁ k₁ H₁ r₁ => ?_))
  refine wpAny_mono (h2.run g₁ s₁ H₁) (fun vs s₂ h => ?_) fun _ _ ⟨q, g₂, σ', k₂, H₂⟩ => ⟨rfl, g₂, σ', fun b o e => k₂ b o (k₁ b o e), H₂⟩
  obtain ⟨ds, ω', e, _⟩ := h; cases e

theorem mv_new {F : List Addr} {o : Obj} (k : g.StaysIn s.heap) (hf : o.isFreed = false) : Mv F [] g s (addTo g (s.heap.push o) [s.heap.objs.size]) { s with heap := s.heap.push o } ∧ (addTo g (s.heap.push o) [s.heap.objs.size]).get? s.heap.objs.size = some o :=
  ⟨Mv.ext (s' := { s with heap := s.heap.push o }) k (fun b o' e => Heap.get?_push_of_some _ e) [s.heap.objs.size] (by simp [new_at_size]), addTo_new (Heap.get?_push_size _ hf) (by simp)⟩

theorem Ev.tuple {es : List Expr} {k : Nat} {pos : Pos} {ds : List D} {ω : Own} (h : EvAll c a σ pos es (.ok (ds, ω))) (hz : ds.length ≤ 1000 := by exact Nat.le_of_ble_eq_true rfl) : Ev c a σ (.Tuple es k pos) (.ok (.tup ds, ω)) := .mk fun g s H => by
  refine Tuple_ (h.then H (fun vs s₁ g₁ k₁ H₁ r₁ => ?_))
  unfold newTuple
  refine wpAny_newObj_type ?_ (by show vs.toArray.size ≤ sizeLine; rw [sizeLine_eq]; simp only [List.size_toArray]; rw [r₁.length]; omega)
  obtain ⟨m, e⟩ := mv_new (F := a.F) (o := { cls := .type "tuple", data := .seq vs.toArray }) H₁.stays rfl
  exact ⟨_, _, rfl, _, fun b o e => m.gg b o (k₁ b o e), H₁.move m, .tup ⟨_, e, rfl, 0, rfl⟩ (r₁.up m.gg)⟩
theorem Ev.tupleErr {es : List Expr} {k : Nat} {pos : Pos} (h : EvAll c a σ pos es .err) : Ev c a σ (.Tuple es k pos) .err := .mk fun g s H => by
  refine Tuple_ (wpAny_mono (h.run g s H) (fun vs s₁ h => ?_) fun _ _ e => ⟨rfl, e.2⟩)
  obtain ⟨ds, ω, e, _⟩ := h; cases e
theorem Ev.list {es : List Expr} {pos : Pos} {ds : List D} {ω : Own} (h : EvAll c a σ pos es (.ok (ds, ω))) (hz : ds.length ≤ 1000 := by exact Nat.le_of_ble_eq_true rfl) : Ev c a σ (.List es pos) (.ok (.lst ds, ω)) := .mk fun g s H => by
  refine List_ (h.then H (fun vs s₁ g₁ k₁ H₁ r₁ => ?_))
  unfold newList
  refine wpAny_newObj_type ?_ (by show vs.toArray.size ≤ sizeLine; rw [sizeLine_eq]; simp only [List.size_toArray]; rw [r₁.length]; omega)
  obtain ⟨m, e⟩ := mv_new (F := a.F) (o := { cls := .type "list", data := .seq vs.toArray }) H₁.stays rfl
  exact ⟨_, _, rfl, _, fun b o e => m.gg b o (k₁ b o e), H₁.move m, .lst ⟨_, e, rfl, 0, rfl⟩ (r₁.up m.gg)⟩

/-! calls -/
/-- f called on ds gives o -/
structure CallOk (c : Cx) (a : Act) (σ : Sg) (f : D) (ds : List D) (o : Out (D × Own)) : Prop where
  run : ∀ g s v vs, St c a g s σ → Rd c g v f → RdAll c g vs ds → wpAny c.M a.A (call v vs [])
    (fun r s' => ∃ d ω, o = .ok (d, ω) ∧ ∃ g', g.StaysIn g' ∧ St c a g' s' ⟨σ.loc, ω⟩ ∧ Rd c g' r d) (Er c a g o) s
/-- what may stand as the called thing in a plain call -/
noncomputable def Callee : D → Prop
  | .fn _ => True
  | .blt _ => True
  | .typ _ => True
  | _ => False
theorem keeper_of {f : D} (hf : Callee f) {v : Value} (hv : Rd c g v f) : ∀ h : Heap, g.StaysIn h → ∃ k, (k = Keeper.frame ∨ k = Keeper.machine ∨ k = Keeper.boundFrame) ∧ Looks c.M h (keeperOf v) k := by
  intro h hk
  cases hv with
  | fn e d => 
    refine ⟨.frame, .inl rfl, fun A Q E s k q => ?_⟩
    unfold keeperOf
    refine wpAny_bind (wpAny_load (k _ _ (hk _ _ e)) ?_)
    rw [d]; exact wpAny_pure q
  | blt n => exact ⟨.machine, .inr (.inl rfl), fun A Q E s k q => wpAny_pure q⟩
  | typ n => exact ⟨.machine, .inr (.inl rfl), fun A Q E s k q => wpAny_pure q⟩
  | _ => exact hf.elim

theorem Ev.call {x : PySem.Str} {p pos : Pos} {e : Expr} {es : List Expr} {f : D} {ds : List D} {ω₁ ω₂ : Own} {o : Out (D × Own)} (hf : Callee f) (h1 : Ev c a σ (.Name x p) (.ok (f, ω₁))) (h2 : EvAll c a ⟨σ.loc, ω₁⟩ pos (e :: es) (.ok (ds, ω₂)))
    (h3 : CallOk c a ⟨σ.loc, ω₂⟩ f ds o)
    (he : starEach (e :: es) a.env = (false, eval e a.env) :: starEach es a.env := by rfl) (hplain : (backTo pos (starEach es a.env)).any (·.1) = false := by rfl) : Ev c a σ (.Call (.Name x p) (e :: es) [] pos) o := .mk fun g s H => by
  refine Call_Name rfl (h1.then H (fun v s₁ g₁ k₁ H₁ r₁ => ?_))
  refine callWith_of (P := fun h => g₁.StaysIn h) ?_ (keeper_of hf r₁) ?_
  · rw [he]; show ((false || (backTo pos (starEach es a.env)).any (·.1)) || false) = false; rw [hplain]; rfl
  · rw [he]
    refine evalArgs_plain (h2.args he H₁ fun vs s₂ g₂ k₂ H₂ r₂ => ?_)
    refine ⟨fun b o e => H₂.stays b o (k₂ b o e), ?_⟩
    refine wpAny_mono (h3.run g₂ s₂ v vs H₂ (r₁.up k₂) r₂) (fun r s₃ h => ?_) fun _ _ h => ?_
    · obtain ⟨d, ω, q, g₃, k₃, H₃, r₃⟩ := h
      exact ⟨d, ω, q, g₃, fun b o e => k₃ b o (k₂ b o (k₁ b o e)), H₃, r₃⟩
    · obtain ⟨q, g₃, σ', k₃, H₃⟩ := h
      exact ⟨q, g₃, σ', fun b o e => k₃ b o (k₂ b o (k₁ b o e)), H₃⟩

theorem CallOk.of {f : D} {ds : List D} {d : D} (h : ∀ g s v vs, St c a g s σ → Rd c g v f → RdAll c g vs ds → wpAny c.M a.A (PySem.call v vs []) (fun r s' => ∃ g', Mv a.F [] g s g' s' ∧ Rd c g' r d) (fun _ _ => False) s) : CallOk c a σ f ds (.ok (d, σ.own)) := .mk fun g s v vs H hv hvs =>
  wpAny_mono (h g s v vs H hv hvs) (fun r s' ⟨g', m, r⟩ => ⟨d, _, rfl, g', m.gg, H.move m, r⟩) fun _ _ f => f.elim

theorem CallOk.lenB (b : List UInt8) (hz : b.length ≤ 1099511627776) : CallOk c a σ (.blt "len") [.bytes b] (.ok (.int b.length, σ.own)) := .of fun g s v vs H hv hvs => by
  obtain rfl := hv.inv
  · obtain ⟨_, _, rfl, h, r⟩ := hvs.inv
    obtain rfl := r.inv
    obtain ⟨_, rfl⟩ := h.inv
    exact len_bytes (by simpa using hz) ⟨g, Mv.toks H.stays _, by simpa using Rd.int _ _⟩
theorem CallOk.lenL (l : List D) (hz : l.length ≤ 1000) : CallOk c a σ (.blt "len") [.lst l] (.ok (.int l.length, σ.own)) := .of fun g s v vs H hv hvs => by
  obtain rfl := hv.inv
  · obtain ⟨_, _, rfl, h, r⟩ := hvs.inv
    obtain rfl := r.inv
    · obtain ⟨_, _, rfl, h, r⟩ := h.inv
      have hl := r.length
      refine len_list (isList_up H.stays h) (by simp only [List.size_toArray]; omega) ⟨g, Mv.toks H.stays _, ?_⟩
      simp only [List.size_toArray, hl]; exact .int _ _

/-! methods of built-in types -/
theorem Ev.meth {o : Expr} {name : PySem.Str} {apos pos : Pos} {e : Expr} {es : List Expr} {x : D} {ds : List D} {ω₁ ω₂ : Own} {out : Out (D × Own)} {T id : String} (h1 : Ev c a σ o (.ok (x, ω₁))) (h2 : EvAll c a ⟨σ.loc, ω₁⟩ pos (e :: es) (.ok (ds, ω₂)))
    (pa : PlainAttrs T) (slot : Slot T name id) (hty : typeOf (.builtin id) = pure (.type "method_descriptor"))
    (hT : ∀ g s v, St c a g s ⟨σ.loc, ω₁⟩ → Rd c g v x → s.TypeIs v T ∧ ∀ b, v = .ref b → ∃ ob, s.heap.get? b = some ob ∧ ob.dict = .none)
    (h3 : ∀ g s v vs, St c a g s ⟨σ.loc, ω₂⟩ → Rd c g v x → RdAll c g vs ds → wpAny c.M a.A (PySem.call (.builtin id) (v :: vs) [])
      (fun r s' => ∃ d ω, out = .ok (d, ω) ∧ ∃ g', g.StaysIn g' ∧ St c a g' s' ⟨σ.loc, ω⟩ ∧ Rd c g' r d) (Er c a g out) s)
    (hbase : attributeBase o name a.env (eval o a.env) = eval o a.env := by rfl)
    (he : starEach (e :: es) a.env = (false, eval e a.env) :: starEach es a.env := by rfl) (hplain : (backTo pos (starEach es a.env)).any (·.1) = false := by rfl)
    (hfew : ((backTo pos (starEach (e :: es) a.env)).all (fun x => !x.1) && (backToKw pos (keywordEach [] a.env)).all (fun x => x.1.isSome)
      && decide ((e :: es).length + ([] : List Keyword).length + (if ([] : List Keyword).isEmpty then 0 else 1) < 30)) = true := by rfl)
    (hline : (apos.endLine == pos.line) = true := by rfl) :
    Ev c a σ (.Call (.Attribute o name apos) (e :: es) [] pos) out := .mk fun g s H => by
  refine wpAny_Call_method_lateS hbase hfew hline (h1.then H (fun v s₁ g₁ k₁ H₁ r₁ => ?_))
  obtain ⟨t1, t2⟩ := hT g₁ s₁ v H₁ r₁
  refine ⟨T, id, pa, slot, hty, t1, t2, ?_⟩
  refine callWith_of (P := fun h => g₁.StaysIn h) ?_ (fun h _ => ⟨.machine, .inr (.inl rfl), fun A Q E s k q => wpAny_pure q⟩) ?_
  · rw [he]; show ((false || (backTo pos (starEach es a.env)).any (·.1)) || false) = false; rw [hplain]; rfl
  · rw [he]
    refine evalArgs_plain (h2.args he H₁ fun vs s₂ g₂ k₂ H₂ r₂ => ?_)
    refine ⟨fun b o e => H₂.stays b o (k₂ b o e), ?_⟩
    refine wpAny_mono (h3 g₂ s₂ v vs H₂ (r₁.up k₂) r₂) (fun r s₃ h => ?_) fun _ _ h => ?_
    · obtain ⟨d, ω, q, g₃, k₃, H₃, r₃⟩ := h
      exact ⟨d, ω, q, g₃, fun b o e => k₃ b o (k₂ b o (k₁ b o e)), H₃, r₃⟩
    · obtain ⟨q, g₃, σ', k₃, H₃⟩ := h
      exact ⟨q, g₃, σ', fun b o e => k₃ b o (k₂ b o (k₁ b o e)), H₃⟩
end

section
open PySem PySem.W PySem.Calls PyProof.Rows PySem.SeqAt
variable {c : Cx} {a : Act} {g : Heap} {s : Shared} {σ : Sg}

/-- one address is changed: it is new, or in the box -/
theorem Mv.touch {F box : List Addr} {g0 : Heap} {s0 : Shared} {b : Addr} {h' : Heap} {k : Nat} (x : Mv F box g0 s0 g s) (hs : Heap.SameBut b s.heap h') (hb : s0.heap.get? b = none ∨ b ∈ box) (hg : g.get? b = none) (ho : ∃ o, h'.get? b = some o) :
    Mv F box g0 s0 g { s with heap := h', toks := k } := by
  have keep : ∀ d o, d ≠ b → s.heap.get? d = some o → h'.get? d = some o := fun d o hd e => (hs.2 d hd).trans e
  refine ⟨x.gg, fun d o e => keep d o (fun q => by rw [q, hg] at e; cases e) (x.gs d o e), x.old, fun d o e => ?_, fun d o hB hF e => ?_, fun d m hB hF e => ?_, x.gens, x.os⟩
  · by_cases hd : d = b
    · subst hd; exact ho
    · obtain ⟨o', e'⟩ := x.there d o e; exact ⟨o', keep d o' hd e'⟩
  · have hd : d ≠ b := fun q => hb.elim (fun h => by rw [q, h] at e; cases e) fun h => hB (q ▸ h)
    exact keep d o hd (x.kept d o hB hF e)
  · have hd : d ≠ b := fun q => hb.elim (fun h => by obtain ⟨o, _, _, e, _⟩ := e; rw [q, h] at e; cases e) fun h => hB (q ▸ h)
    exact (x.keptF d m hB hF e).at' fun o e => keep d o hd e

theorem St.L_there (H : St c a g s σ) : ∃ o, s.heap.get? a.env.locals = some o := let ⟨m, o, _, _, e, _⟩ := H.ns; ⟨o, e⟩
theorem St.storeL (H : St c a g s σ) {x : PySem.Str} {v : Value} {d : D} {m : PySem.Str → Option Value} {h' : Heap} {k : Nat} (hr : Rd c g v d) (hn : s.heap.Ns a.env.locals m) (hx : a.env.kindOf x = some .local)
    (hn' : h'.Ns a.env.locals (fun y => if y = x then some v else m y)) (hs : Heap.SameBut a.env.locals s.heap h') : St c a g { s with heap := h', toks := k } ⟨(x, d) :: σ.loc, σ.own⟩ := by
  obtain ⟨l, hl, hF, hfr⟩ := H.fr
  have ex : ∃ o, h'.get? a.env.locals = some o := let ⟨o, _, _, e, _⟩ := hn'; ⟨o, e⟩
  have kc : ∀ y b w, a.env.cells.lookup y = some b → s.heap.IsCell b w → h'.IsCell b w := fun y b w hb hc => hc.sameBut hs (H.cellsF y b hb).2
  refine ⟨H.ok, H.mv.touch hs (.inl H.newL) H.nl ex, ⟨l, hl, hF, ?_⟩, ⟨_, hn'⟩, H.nl, H.nb, H.newL, H.newC, ?_, H.cellsF, H.cellsA, ?_, ?_, H.ownL⟩
  · intro env he
    obtain ⟨hk, L, mm, hf, hg, hN⟩ := hfr env he
    by_cases hL : L = a.env.locals
    · subst hL; exact ⟨hk, _, _, hf, hg, hn'⟩
    · exact ⟨hk, L, mm, hf, hg, hN.sameBut hs hL⟩
  · intro y b hb
    obtain ⟨h1, h2, w, h3⟩ := H.cells y b hb
    exact ⟨h1, h2, w, kc y b _ hb h3⟩
  · intro y e hy
    rw [List.lookup_cons] at hy
    cases q : y == x with
    | true =>
      rw [q] at hy; cases hy
      have := eq_of_beq q; subst this
      exact ⟨v, .loc hx hn' (by simp), hr⟩
    | false =>
      rw [q] at hy
      obtain ⟨w, hw, hr'⟩ := H.loc y e hy
      refine ⟨w, ?_, hr'⟩
      cases hw with
      | loc k n' e' =>
        have hne : y ≠ x := by intro z; subst z; simp at q
        exact .loc k hn' (by rw [if_neg hne, ns_fun hn n']; exact e')
      | cell k hc e' => exact .cell k hc (kc y _ _ hc e')
  · exact ⟨fun p hp => (H.own.at_ p hp).move (fun _ _ e => e) fun o e => (hs.2 _ (H.ownL p hp).1).trans e, H.own.out, H.own.apart⟩

theorem St.storeC (H : St c a g s σ) (hfull : a.full = true) {x : PySem.Str} {b : Addr} {v : Value} {d : D} {h' : Heap} {k : Nat} (hr : Rd c g v d) (hx : a.env.kindOf x = some .cell) (hb : a.env.cells.lookup x = some b)
    (hn' : h'.IsCell b (some v)) (hs : Heap.SameBut b s.heap h') : St c a g { s with heap := h', toks := k } ⟨(x, d) :: σ.loc, σ.own⟩ := by
  obtain ⟨l, hl, hF, hfr⟩ := H.fr
  have ex : ∃ o, h'.get? b = some o := let ⟨o, e, _⟩ := hn'; ⟨o, e⟩
  have hbL := (H.cellsF x b hb).2
  have kc : ∀ y b' w, a.env.cells.lookup y = some b' → b' ≠ b → s.heap.IsCell b' w → h'.IsCell b' w := fun y b' w hb' hne hc => hc.sameBut hs hne
  obtain ⟨mm0, hns⟩ := H.ns
  have hns' := hns.sameBut hs (Ne.symm hbL)
  refine ⟨H.ok, H.mv.touch hs (.inl (H.newC hfull x b hb)) (H.cells x b hb).1 ex, ⟨l, hl, hF, ?_⟩, ⟨_, hns'⟩, H.nl, H.nb, H.newL, H.newC, ?_, H.cellsF, H.cellsA, ?_, ?_, H.ownL⟩
  · intro env he
    obtain ⟨hk, L, mm, hf, hg, hN⟩ := hfr env he
    exact ⟨hk, L, mm, hf, hg, hN.sameBut hs fun e => (H.cellsF x b hb).1 (e ▸ hF ▸ mem_framesOf he hf)⟩
  · intro y b' hb'
    obtain ⟨h1, h2, w, h3⟩ := H.cells y b' hb'
    by_cases hne : b' = b
    · subst hne; exact ⟨h1, h2, _, hn'⟩
    · exact ⟨h1, h2, w, kc y b' _ hb' hne h3⟩
  · intro y e hy
    rw [List.lookup_cons] at hy
    cases q : y == x with
    | true =>
      rw [q] at hy; cases hy
      have := eq_of_beq q; subst this
      exact ⟨v, .cell (.inl hx) hb hn', hr⟩
    | false =>
      rw [q] at hy
      obtain ⟨w, hw, hr'⟩ := H.loc y e hy
      refine ⟨w, ?_, hr'⟩
      cases hw with
      | loc k n' e' => exact .loc k (n'.sameBut hs (Ne.symm hbL)) e'
      | @cell b' k hc e' =>
        have hne : b' ≠ b := fun z => by
          subst z
          have := H.cellsA y x _ hc hb
          subst this; simp at q
        exact .cell k hc (kc y _ _ hc hne e')
  · exact ⟨fun p hp => (H.own.at_ p hp).move (fun _ _ e => e) fun o e => (hs.2 _ fun z => (H.ownL p hp).2.1 x (by rw [z]; exact hb)).trans e, H.own.out, H.own.apart⟩

/-- a name that may be stored to -/
noncomputable def Stores (a : Act) (x : PySem.Str) : Prop := a.env.kindOf x = some .local ∨ (a.full = true ∧ a.env.kindOf x = some .cell ∧ ∃ b, a.env.cells.lookup x = some b)
theorem store_ok {A : Around} (H : St c a g s σ) {x : PySem.Str} {v : Value} {d : D} {Q : Unit → Shared → Prop} {E : Value → Shared → Prop} (hr : Rd c g v d) (hx : Stores a x) (h : ∀ s', St c a g s' ⟨(x, d) :: σ.loc, σ.own⟩ → Q () s') :
    wpAny c.M A (storeName a.env x v) Q E s := by
  rcases hx with hx | ⟨hfull, hx, b, hb⟩
  · obtain ⟨m, hn⟩ := H.ns
    exact wpAny_storeName_local hx hn (fun h' hn' hs => h _ (H.storeL hr hn hx hn' hs)) (by rw [H.ok.fn]; rfl)
  · obtain ⟨_, _, w, hc⟩ := H.cells x b hb
    exact wpAny_storeName_cell H.ok.fn hx hb hc fun h' hc' hs => h _ (H.storeC (k := s.toks) hfull hr hx hb hc' hs)

/-! statements -/
theorem Exs.nil : Exs c a σ [] (.ok (.next σ)) := .mk fun g s H => wpAny_execs_nil ⟨σ, rfl, g, fun _ _ e => e, H⟩
theorem SPost.up {g g₁ : Heap} {o : Out Fin} {f : Flow} {s' : Shared} (k : g.StaysIn g₁) (h : SPost c a g₁ o f s') : SPost c a g o f s' := by
  cases f with
  | next => obtain ⟨σ', q, g', k', H⟩ := h; exact ⟨σ', q, g', fun b o e => k' b o (k b o e), H⟩
  | ret v => obtain ⟨d, ω, q, g', loc, k', H⟩ := h; exact ⟨d, ω, q, g', loc, fun b o e => k' b o (k b o e), H⟩
  | _ => exact h
theorem Er.up {α : Type} {g g₁ : Heap} {o : Out α} {x : Value} {s' : Shared} (k : g.StaysIn g₁) (h : Er c a g₁ o x s') : Er c a g o x s' := let ⟨q, g', σ', k', H⟩ := h; ⟨q, g', σ', fun b o e => k' b o (k b o e), H⟩
theorem Er.of {α β : Type} {g : Heap} {o : Out α} {x : Value} {s' : Shared} (h : Er c a g o x s') (hq : o = .err) : Er c a g (.err : Out β) x s' := ⟨rfl, h.2⟩

theorem Exs.cons {st : Stmt} {rest : List Stmt} {σ₁ : Sg} {o : Out Fin} (h : Ex c a σ st (.ok (.next σ₁))) (h2 : Exs c a σ₁ rest o) : Exs c a σ (st :: rest) o := .mk fun g s H => by
  refine wpAny_execs_cons (wpAny_mono (h.run g s H) (fun f s₁ h => ?_) fun _ _ e => (nomatch e.1))
  cases f with
  | next =>
    obtain ⟨σ', q, g₁, k₁, H₁⟩ := h
    cases q
    exact wpAny_mono (h2.run g₁ s₁ H₁) (fun f s₂ h => h.up k₁) fun _ _ e => e.up k₁
  | ret v => obtain ⟨d, ω, q, _⟩ := h; cases q
  | _ => exact h.elim
theorem Exs.ret {st : Stmt} {rest : List Stmt} {d : D} {ω : Own} (h : Ex c a σ st (.ok (.ret d ω))) : Exs c a σ (st :: rest) (.ok (.ret d ω)) := .mk fun g s H => by
  refine wpAny_execs_cons (wpAny_mono (h.run g s H) (fun f s₁ h => ?_) fun _ _ e => (nomatch e.1))
  cases f with
  | next => obtain ⟨σ', q, _⟩ := h; cases q
  | ret v => exact h
  | _ => exact h.elim
theorem Exs.err {st : Stmt} {rest : List Stmt} (h : Ex c a σ st .err) : Exs c a σ (st :: rest) .err := .mk fun g s H => by
  refine wpAny_execs_cons (wpAny_mono (h.run g s H) (fun f s₁ h => ?_) fun _ _ e => e)
  cases f with
  | next => obtain ⟨σ', q, _⟩ := h; cases q
  | ret v => obtain ⟨d, ω, q, _⟩ := h; cases q
  | _ => exact h.elim

theorem Ex.ret {e : Expr} {pos : Pos} {d : D} {ω : Own} (h : Ev c a σ e (.ok (d, ω))) : Ex c a σ (.Return (some e) pos) (.ok (.ret d ω)) := .mk fun g s H => by
  refine wpAny_Return_some (h.then H (fun v s₁ g₁ k₁ H₁ r₁ => ?_))
  exact ⟨_, _, rfl, g₁, _, k₁, H₁, r₁⟩
theorem Ex.retErr {e : Expr} {pos : Pos} (h : Ev c a σ e .err) : Ex c a σ (.Return (some e) pos) .err := .mk fun g s H => by
  refine wpAny_Return_some (wpAny_mono (h.run g s H) (fun v s₁ h => ?_) fun _ _ e => ⟨rfl, e.2⟩)
  obtain ⟨d, ω, q, _⟩ := h; cases q

theorem Ex.if_ {test : Expr} {body orelse : List Stmt} {pos : Pos} {b : Bool} {ω : Own} {o : Out Fin} (h : Tr c a σ test (.ok (b, ω))) (hT : b = true → Exs c a ⟨σ.loc, ω⟩ body o) (hF : b = false → Exs c a ⟨σ.loc, ω⟩ orelse o) :
    Ex c a σ (.If test body orelse pos) o := .mk fun g s H => by
  refine wpAny_If (h.then H (fun s₁ g₁ k₁ H₁ => ?_))
  cases b with
  | true => exact wpAny_mono ((hT rfl).run g₁ s₁ H₁) (fun f s₂ h => h.up k₁) fun _ _ e => e.up k₁
  | false => exact wpAny_mono ((hF rfl).run g₁ s₁ H₁) (fun f s₂ h => h.up k₁) fun _ _ e => e.up k₁
theorem Ex.ifErr {test : Expr} {body orelse : List Stmt} {pos : Pos} (h : Tr c a σ test .err) : Ex c a σ (.If test body orelse pos) .err := .mk fun g s H => by
  refine wpAny_If (wpAny_mono (h.run g s H) (fun v s₁ h => ?_) fun _ _ e => ⟨rfl, e.2⟩)
  obtain ⟨ω', q, _⟩ := h; cases q

/-- a call for its effect: the value is no reference -/
theorem Ex.expr {e : Expr} {pos : Pos} {d : D} {ω : Own} (h : Ev c a σ e (.ok (d, ω))) (hd : d = .none)
    (hi : interactive a.env = false := by rfl) (hs : swapsWith e none pos.line a.env = pure false := by rfl) : Ex c a σ (.Expr e pos) (.ok (.next ⟨σ.loc, ω⟩)) := .mk fun g s H => by
  refine wpAny_Expr (h.then H (fun v s₁ g₁ k₁ H₁ r₁ => ?_)) hi hs
  subst hd
  cases r₁
  exact ⟨_, rfl, g₁, k₁, H₁⟩
theorem Ex.exprErr {e : Expr} {pos : Pos} (h : Ev c a σ e .err)
    (hi : interactive a.env = false := by rfl) (hs : swapsWith e none pos.line a.env = pure false := by rfl) : Ex c a σ (.Expr e pos) .err := .mk fun g s H => by
  refine wpAny_Expr (wpAny_mono (h.run g s H) (fun v s₁ h => ?_) fun _ _ e => ⟨rfl, e.2⟩) hi hs
  obtain ⟨d, ω, q, _⟩ := h; cases q

theorem Ex.assign {x : PySem.Str} {pos' pos : Pos} {e : Expr} {d : D} {ω : Own} (h : Ev c a σ e (.ok (d, ω))) (hx : Stores a x)
    (hs : swapsWith e (some (.Name x pos')) pos.line a.env = pure false := by rfl) : Ex c a σ (.Assign [.Name x pos'] e pos) (.ok (.next ⟨(x, d) :: σ.loc, ω⟩)) := .mk fun g s H => by
  refine wpAny_Assign_Name (h.then H (fun v s₁ g₁ k₁ H₁ r₁ => ?_)) hs
  exact store_ok H₁ r₁ hx fun s' H' => ⟨_, rfl, g₁, k₁, H'⟩
theorem Ex.assignErr {x : PySem.Str} {pos' pos : Pos} {e : Expr} (h : Ev c a σ e .err)
    (hs : swapsWith e (some (.Name x pos')) pos.line a.env = pure false := by rfl) : Ex c a σ (.Assign [.Name x pos'] e pos) .err := .mk fun g s H => by
  refine wpAny_Assign_Name (wpAny_mono (h.run g s H) (fun v s₁ h => ?_) fun _ _ e => ⟨rfl, e.2⟩) hs
  obtain ⟨d, ω, q, _⟩ := h; cases q
end

section
open PySem PySem.W PySem.Calls PyProof.Rows PySem.SeqAt
variable {c : Cx} {a : Act} {g : Heap} {s : Shared} {σ : Sg}

/-! errors that pass -/
/-- a step that changes only the marks of frames, and the records xs -/
structure FStep (F xs : List Addr) (h h' : Heap) : Prop where
  off : ∀ b o, b ∉ F → b ∉ xs → h.get? b = some o → h'.get? b = some o
  on : ∀ b o, b ∉ xs → h.get? b = some o → ∃ sl, h'.get? b = some { o with slots := sl }
noncomputable def Recs (g h0 h : Heap) (xs : List Addr) : Prop := ∀ x ∈ xs, g.get? x = none ∧ h0.get? x = none ∧ ∃ o vs, h.get? x = some o ∧ o.data = .fields vs
theorem FStep.trans {F xs : List Addr} {h h₁ h₂ : Heap} (x : FStep F xs h h₁) (y : FStep F xs h₁ h₂) : FStep F xs h h₂ :=
  ⟨fun b o hF hx e => y.off b o hF hx (x.off b o hF hx e), fun b o hx e => let ⟨_, e₁⟩ := x.on b o hx e; let ⟨sl, e₂⟩ := y.on b _ hx e₁; ⟨sl, e₂⟩⟩
theorem FStep.ns {F xs : List Addr} {h h' : Heap} (x : FStep F xs h h') {b : Addr} {m : PySem.Str → Option Value} (hb : b ∉ xs) (n : h.Ns b m) : h'.Ns b m := by
  obtain ⟨o, es, ep, ho, hd, r⟩ := n
  obtain ⟨sl, hs⟩ := x.on b o hb ho
  exact ⟨_, es, ep, hs, hd, r⟩
theorem Recs.not {g h0 h : Heap} {xs : List Addr} (r : Recs g h0 h xs) {b : Addr} {o : Obj} (e : h.get? b = some o) (hd : ∀ vs, o.data ≠ .fields vs) : b ∉ xs := fun hb => by
  obtain ⟨_, _, o', vs, e', d⟩ := r b hb
  rw [e] at e'; cases e'; exact hd vs d
theorem Recs.ns {g h0 h : Heap} {xs : List Addr} (r : Recs g h0 h xs) {b : Addr} {m : PySem.Str → Option Value} (n : h.Ns b m) : b ∉ xs := by
  obtain ⟨o, es, ep, ho, hd, _⟩ := n
  exact r.not ho fun vs q => by rw [hd] at q; cases q
theorem St.step (H : St c a g s σ) {xs : List Addr} {h' : Heap} (r : Recs g a.s0.heap s.heap xs) (x : FStep a.F xs s.heap h') : St c a g { s with heap := h' } ⟨σ.loc, []⟩ := by
  obtain ⟨l, hl, hF, hfr⟩ := H.fr
  have gF : ∀ b ∈ a.F, g.get? b = none := fun b hb => by
    rw [hF] at hb
    obtain ⟨env, he, hf⟩ := List.mem_filterMap.mp hb
    obtain ⟨_, L, m, hL, hg, _⟩ := hfr env he
    rw [hL] at hf; cases hf; exact hg
  have m := H.mv
  have m' : Mv a.F a.box a.g0 a.s0 g { s with heap := h' } := by
    refine ⟨m.gg, fun b o e => x.off b o (fun hb => by rw [gF b hb] at e; cases e) (fun hb => by rw [(r b hb).1] at e; cases e) (m.gs b o e), m.old, fun b o e => ?_, fun b o hB hF' e => ?_, fun b mm hB hF' e => ?_, m.gens, m.os⟩
    · obtain ⟨o', e'⟩ := m.there b o e
      obtain ⟨sl, e2⟩ := x.on b o' (fun hb => by rw [(r b hb).2.1] at e; cases e) e'
      exact ⟨_, e2⟩
    · exact x.off b o hF' (fun hb => by rw [(r b hb).2.1] at e; cases e) (m.kept b o hB hF' e)
    · have e1 := m.keptF b mm hB hF' e
      exact x.ns (r.ns e1) e1
  have kc : ∀ y b w, a.env.cells.lookup y = some b → s.heap.IsCell b w → h'.IsCell b w := fun y b w hb hc => by
    obtain ⟨o, e, d⟩ := hc
    exact ⟨o, x.off b o (H.cellsF y b hb).1 (r.not e fun vs q => by rw [d] at q; cases q) e, d⟩
  obtain ⟨mm0, hns⟩ := H.ns
  refine ⟨H.ok, m', ⟨l, hl, hF, ?_⟩, ⟨mm0, x.ns (r.ns hns) hns⟩, H.nl, H.nb, H.newL, H.newC, ?_, H.cellsF, H.cellsA, ?_, ⟨fun p hp => (by cases hp), fun p hp => (by cases hp), by simp⟩, fun p hp => (by cases hp)⟩
  · intro env he
    obtain ⟨hk, L, mm, hf, hg, hN⟩ := hfr env he
    exact ⟨hk, L, mm, hf, hg, x.ns (r.ns hN) hN⟩
  · intro y b hb
    obtain ⟨h1, h2, w, h3⟩ := H.cells y b hb
    exact ⟨h1, h2, w, kc y b _ hb h3⟩
  · intro y d hy
    obtain ⟨v, hn, hr⟩ := H.loc y d hy
    exact ⟨v, hn.move (fun mm hm => x.ns (r.ns hm) hm) (fun b hb v hv => kc y b _ hb hv), hr⟩
theorem St.bare (H : St c a g s σ) : St c a g s ⟨σ.loc, []⟩ := ⟨H.ok, H.mv, H.fr, H.ns, H.nl, H.nb, H.newL, H.newC, H.cells, H.cellsF, H.cellsA, H.loc, ⟨fun p hp => (by cases hp), fun p hp => (by cases hp), by simp⟩, fun p hp => (by cases hp)⟩

theorem frameOf_ok (H : St c a g s σ) {L : Addr} (hf : a.env.frame = some L) {Q : Value → Shared → Prop} {E : Value → Shared → Prop} (h : ∀ h', Heap.SlotsOnly a.F s.heap h' → Q (.ref L) { s with heap := h' }) :
    wpAny c.M a.A (PySem.frameOf a.env) Q E s := by
  obtain ⟨fenv, outer, h1, h2, h3⟩ := H.ok.frames
  obtain ⟨l, hl, hF, hfr⟩ := H.fr
  rw [h1] at hl; cases hl
  unfold PySem.frameOf
  refine wpAny_bind (wpAny_frameEnvs h1 ?_)
  have hdw : ((fenv :: outer).dropWhile fun x => x.frame != a.env.frame) = fenv :: outer := by simp [List.dropWhile, h2]
  rw [hdw]
  unfold frameObject
  refine wpAny_bind (wpAny_bind (wpAny_readyFrames_fun hfr.fun fun h₁ hs₁ => wpAny_pure ?_))
  rw [h2, hf]
  exact wpAny_pure (h h₁ (h3 ▸ hs₁))

theorem FStep.slots {F xs : List Addr} {h h' : Heap} (x : Heap.SlotsOnly F h h') : FStep F xs h h' := ⟨fun b o hF _ e => (x.2.1 b hF).trans e, fun b o _ e => x.2.2 b o e⟩
theorem FStep.push {F xs : List Addr} {h : Heap} {o : Obj} : FStep F xs h (h.push o) := ⟨fun b _ _ _ e => Heap.get?_push_of_some _ e, fun b o' _ e => ⟨o'.slots, Heap.get?_push_of_some _ e⟩⟩
theorem FStep.update {F xs : List Addr} {h : Heap} {b : Addr} {f : Obj → Obj} (hb : b ∈ xs) : FStep F xs h (h.update b f) :=
  ⟨fun d o _ hx e => (Heap.get?_update_other _ _ (fun q : b = d => hx (by rw [← q]; exact hb))).trans e, fun d o hx e => ⟨o.slots, (Heap.get?_update_other _ _ (fun q : b = d => hx (by rw [← q]; exact hb))).trans e⟩⟩
theorem St.noF (H : St c a g s σ) {b : Addr} {o : Obj} {vs : Array Value} (e : s.heap.get? b = some o) (hd : o.data = .fields vs) : b ∉ a.F := by
  obtain ⟨l, hl, hF, hfr⟩ := H.fr
  intro hb
  rw [hF] at hb
  obtain ⟨env, he, hf⟩ := List.mem_filterMap.mp hb
  obtain ⟨_, L, m, hL, hg, o', es, ep, ho, hdd, _⟩ := hfr env he
  rw [hL] at hf; cases hf
  rw [e] at ho; cases ho
  rw [hd] at hdd; cases hdd
theorem St.s0_new (H : St c a g s σ) {b : Addr} (e : s.heap.get? b = none) : a.s0.heap.get? b = none := by
  cases q : a.s0.heap.get? b with
  | none => rfl
  | some o => obtain ⟨o', e'⟩ := H.mv.there b o q; rw [e] at e'; cases e'
theorem St.g_new (H : St c a g s σ) {b : Addr} (e : s.heap.get? b = none) : g.get? b = none := by
  cases q : g.get? b with
  | none => rfl
  | some o => rw [H.stays b o q] at e; cases e

theorem mapFields_set_dict (o : Obj) (i : Nat) (x : Value) : (Obj.mapFields (·.setIfInBounds i x) o).dict = o.dict := by
  obtain ⟨c, d, dt, sl⟩ := o; cases dt <;> rfl

theorem entry_ok (H : St c a g s σ) {L e : Addr} {tb : Bool} (hf : a.env.frame = some L) (x : Fl c a.s0.heap a.env.locals g s.heap a.F (.ref e) tb) {head : Value} {hadNext : Bool} {Q : Unit → Shared → Prop} {E : Value → Shared → Prop}
    (h : ∀ h', St c a g { s with heap := h' } ⟨σ.loc, []⟩ → Fl c a.s0.heap a.env.locals g h' a.F (.ref e) true → Q () { s with heap := h' }) :
    wpAny c.M a.A (do let a ← PySem.frameOf a.env; let pl ← entryPlaceOf L hadNext; let b ← EntryCells.newEntry head a .none (rawInt L) .none pl; setField (.ref e) 1 b) Q E s := by
  obtain ⟨e', oe, vs, dx, mx, tk, h1, h2, h3, h4, h5, h6, h7, h8, h9, h10, h11⟩ := x.ex
  cases h1
  have h13 : dx ≠ e := fun q => by obtain ⟨o, es, ep, ho, hdd, _⟩ := h8; rw [q, h4] at ho; cases ho; rw [h6] at hdd; cases hdd
  have hsz : 1 < vs.size := h11.elim (fun q => (Array.getElem?_eq_some_iff.mp q.2).1) fun ⟨T, oT, ts, f, q, _⟩ => (Array.getElem?_eq_some_iff.mp q).1
  refine wpAny_bind (frameOf_ok H hf fun h₁ hs₁ => ?_)
  refine wpAny_bind (wpAny_entryPlaceOf fun pl hpl => ?_)
  unfold EntryCells.newEntry newFields
  refine wpAny_bind (wpAny_newObj_type ?_ (hpl.sizeOk5 _ _ _ _ _))
  have he₁ : h₁.get? e = some oe := (hs₁.2.1 e (H.noF h4 h6)).trans h4
  have he₂ := Heap.get?_push_of_some (h := h₁) { cls := .type "traceback", dict := none, data := .fields ([head, .ref L, .none, rawInt L, .none] ++ (if pl.isEmpty then List.replicate 6 Value.none else pl)).toArray } he₁
  refine wpAny_setField he₂ h6 hsz (h _ ?_ ?_)
  · refine H.step (xs := [e]) (fun b hb => ?_) ((FStep.slots hs₁).trans (FStep.push.trans (FStep.update (by simp))))
    simp only [List.mem_singleton] at hb; subst hb
    exact ⟨h2, h3, oe, vs, h4, h6⟩
  · have hT : s.heap.get? h₁.objs.size = none := by
      rw [hs₁.1]; exact new_at_size
    have hTe : h₁.objs.size ≠ e := Nat.ne_of_gt (Heap.lt_size he₁)
    have hd₃ := Obj.data_mapFields h6 (·.setIfInBounds 1 (Value.ref h₁.objs.size))
    have he₃ := Heap.get?_update_self (Obj.mapFields (·.setIfInBounds 1 (Value.ref h₁.objs.size))) he₂ (Obj.isFreed_of_fields hd₃)
    have hT₃ := (Heap.get?_update_other (h₁.push { cls := .type "traceback", dict := none, data := .fields ([head, .ref L, .none, rawInt L, .none] ++ (if pl.isEmpty then List.replicate 6 Value.none else pl)).toArray })
      (Obj.mapFields (·.setIfInBounds 1 (Value.ref h₁.objs.size))) (Ne.symm hTe)).trans (Heap.get?_push_size h₁ rfl)
    refine ⟨e, _, _, dx, mx, tk, rfl, h2, h3, he₃, (Obj.cls_mapFields _ _).trans h5, hd₃, (mapFields_set_dict _ _ _).trans h7, ?_, h9, h10, .inr ⟨h₁.objs.size, _, _, rawInt L, by simp [hsz], H.g_new hT, H.s0_new hT, hTe, hT₃, rfl, by first | (simp; done) | (rcases hpl with rfl | ⟨_, _, _, _, _, _, _, rfl⟩ <;> simp)⟩⟩
    have n1 : h₁.Ns dx mx := h8.at' fun o q => (hs₁.2.1 dx h10.1).trans q
    exact n1.at' fun o q => by rw [Heap.get?_update_other _ _ (Ne.symm h13)]; exact Heap.get?_push_of_some _ q

theorem note_ok (H : St c a g s σ) {x : Value} {tb : Bool} (f : Fl c a.s0.heap a.env.locals g s.heap a.F x tb) {Q : Unit → Shared → Prop} {E : Value → Shared → Prop}
    (h : ∀ h', St c a g { s with heap := h' } ⟨σ.loc, []⟩ → Fl c a.s0.heap a.env.locals g h' a.F x true → Q () { s with heap := h' }) : wpAny c.M a.A (noteFrame x a.env) Q E s := by
  obtain ⟨L, hf⟩ := H.ok.frame
  obtain ⟨e, oe, vs, dx, mx, tk, h1, h2, h3, h4, h5, h6, h7, h8, h9, h10, h11⟩ := id f.ex
  subst h1
  unfold noteFrame
  simp only [hf]
  rcases h11 with ⟨_, q⟩ | ⟨T, oT, ts, fl, q, t1, t2, t3, t4, t5, t6⟩
  · refine wpAny_bind (wpAny_field h4 h6 q ?_)
    rw [if_neg (by decide)]
    exact entry_ok H hf f h
  · refine wpAny_bind (wpAny_field h4 h6 q ?_)
    rw [if_pos (show (Value.ref T != Value.none) = true from by simp)]
    refine wpAny_bind (wpAny_field t4 t5 t6 ?_)
    by_cases hm : (fl == rawInt L) = true
    · rw [if_pos hm]
      exact wpAny_pure (h s.heap H.bare ⟨e, oe, vs, dx, mx, tk, rfl, h2, h3, h4, h5, h6, h7, h8, h9, h10, .inr ⟨T, oT, ts, fl, q, t1, t2, t3, t4, t5, t6⟩⟩)
    · rw [if_neg hm]
      refine wpAny_bind (wpAny_setField t4 t5 (Array.getElem?_eq_some_iff.mp t6).1 ?_)
      have hdT : dx ≠ T := fun q => by obtain ⟨o, es, ep, ho, hdd, _⟩ := h8; rw [q, t4] at ho; cases ho; rw [t5] at hdd; cases hdd
      refine entry_ok (s := { s with heap := _ }) (tb := true) (H.step (xs := [T]) (fun b hb => ?_) (FStep.update (by simp))) hf ⟨e, oe, vs, dx, mx, tk, rfl, h2, h3, (Heap.get?_update_other _ _ t3).trans h4, h5, h6, h7, h8.at' fun o z => (Heap.get?_update_other _ _ (Ne.symm hdT)).trans z, h9, h10, .inr ⟨T, _, _, Value.none, q, t1, t2, t3,
        Heap.get?_update_self _ t4 (Obj.isFreed_of_fields (Obj.data_mapFields t5 _)), Obj.data_mapFields t5 _, by simp [(Array.getElem?_eq_some_iff.mp t6).1]⟩⟩ h
      simp only [List.mem_singleton] at hb; subst hb
      exact ⟨t1, t2, oT, ts, t4, t5⟩

theorem flight_ok {A : Around} (H : St c a g s σ) {x : Value} (f : Fl c a.s0.heap a.env.locals g s.heap a.F x true) (fr : Option Addr) {Q : Unit → Shared → Prop} {E : Value → Shared → Prop}
    (h : ∀ h', St c a g { s with heap := h' } ⟨σ.loc, []⟩ → Fl c a.s0.heap a.env.locals g h' a.F x true → Q () { s with heap := h' }) : wpAny c.M A (setFlight x fr) Q E s := by
  obtain ⟨e, oe, vs, dx, mx, tk, h1, h2, h3, h4, h5, h6, h7, h8, h9, h10, h11⟩ := id f.ex
  subst h1
  rcases h11 with ⟨z, _⟩ | ⟨T, oT, ts, fl, q, t1, t2, t3, t4, t5, t6⟩
  · cases z
  unfold setFlight
  refine wpAny_bind (wpAny_field h4 h6 q ?_)
  rw [if_pos (show (Value.ref T != Value.none) = true from by simp)]
  have hsz := (Array.getElem?_eq_some_iff.mp t6).1
  refine wpAny_setField t4 t5 hsz ?_
  have hdT : dx ≠ T := fun q => by obtain ⟨o, es, ep, ho, hdd, _⟩ := h8; rw [q, t4] at ho; cases ho; rw [t5] at hdd; cases hdd
  refine h _ (H.step (xs := [T]) (fun b hb => ?_) (FStep.update (by simp))) ⟨e, oe, vs, dx, mx, tk, rfl, h2, h3, (Heap.get?_update_other _ _ t3).trans h4, h5, h6, h7, h8.at' fun o z => (Heap.get?_update_other _ _ (Ne.symm hdT)).trans z, h9, h10, .inr ⟨T, _, _, _, q, t1, t2, t3,
        Heap.get?_update_self _ t4 (Obj.isFreed_of_fields (Obj.data_mapFields t5 _)), Obj.data_mapFields t5 _, by simp [hsz]; rfl⟩⟩
  simp only [List.mem_singleton] at hb; subst hb
  exact ⟨t1, t2, oT, ts, t4, t5⟩

theorem noted_ok {α : Type} {o : Out α} {E : Value → Shared → Prop} {x : Value} {s' : Shared} {tb : Bool} (f : ErT tb c a g o x s') (h : ∀ s'', ErT true c a g o x s'' → E x s'') : notedBy c.M a.A a.env E x s' := by
  obtain ⟨q, g', σ', k, H, fl⟩ := f
  exact note_ok H fl fun h' H' f' => h _ ⟨q, g', _, k, H', f'⟩
open PySem PySem.W PySem.Calls PyProof.Rows PySem.SeqAt
variable {c : Cx} {a : Act} {g : Heap} {s : Shared} {σ : Sg}
theorem back_ok {α : Type} {o : Out α} {E : Value → Shared → Prop} {x : Value} {s' : Shared} (f : ErT true c a g o x s') (h : ∀ s'', ErT true c a g o x s'' → E x s'') : cameBackBy c.M a.A a.env E x s' := by
  obtain ⟨q, g', σ', k, H, fl⟩ := f
  obtain ⟨e, oe, vs, dx, mx, tk, h1, h2, h3, h4, h5, h6, h7, h8, h9, h10, h11⟩ := id fl.ex
  subst h1
  rcases h11 with ⟨z, _⟩ | ⟨T, oT, ts, fl', q', t1, t2, t3, t4, t5, t6⟩
  · cases z
  refine wpAny_bind (wpAny_field h4 h6 q' ?_)
  rw [if_neg (by simp)]
  exact flight_ok H fl _ fun h' H' f' => h _ ⟨q, g', _, k, H', f'⟩
theorem passOn_ok {α β : Type} {o : Out α} {E : Value → Shared → Prop} {x : Value} {s' : Shared} {what : String} {env : Env} {Q : β → Shared → Prop} (f : ErT true c a g o x s') (h : ∀ s'', ErT true c a g o x s'' → E x s'') : wpAny c.M a.A (PySem.passOn what x env : Sem β) Q E s' := by
  obtain ⟨q, g', σ', k, H, fl⟩ := f
  obtain ⟨e, oe, vs, dx, mx, tk, h1, h2, h3, h4, h5, h6, h7, h8, h9, h10, h11⟩ := id fl.ex
  subst h1
  rcases h11 with ⟨z, _⟩ | ⟨T, oT, ts, fl', q', t1, t2, t3, t4, t5, t6⟩
  · cases z
  unfold PySem.passOn
  refine wpAny_bind (wpAny_field h4 h6 q' ?_)
  rw [if_neg (by simp)]
  exact wpAny_bind (flight_ok H fl _ fun h' H' f' => wpAny_throw (h _ ⟨q, g', _, k, H', f'⟩))
theorem leave_ok {α : Type} {o : Out α} {Q : Unit → Shared → Prop} {E : Value → Shared → Prop} {x : Value} {s' : Shared} (f : ErT false c a g o x s') (h : ∀ s'', ErT true c a g o x s'' → Q () s'') : wpAny c.M a.A (leaving a.env x) Q E s' := by
  obtain ⟨q, g', σ', k, H, fl⟩ := f
  unfold leaving
  exact wpAny_bind (note_ok H fl fun h' H' f' => flight_ok H' f' _ fun h'' H'' f'' => h _ ⟨q, g', _, k, H'', f''⟩)
end

section
open PySem PySem.W PySem.Calls PyProof.Rows PySem.SeqAt
variable {c : Cx} {a : Act} {g : Heap} {s : Shared} {σ : Sg}

/-! calls of the program's functions -/
theorem St.back {B : List Addr} {g' : Heap} {s' : Shared} (H : St c a g s σ) (m : Mv a.F B g s g' s') (hB : ∀ b ∈ B, ∃ d, (b, d) ∈ σ.own) (ω' : Own) (hω : ∀ p ∈ ω', (p ∈ σ.own ∧ p.1 ∉ B) ∨ (p.1 ∈ B ∧ OwnAt c g' s'.heap p.1 p.2))
    (nd : (ω'.map (·.1)).Nodup) : St c a g' s' ⟨σ.loc, ω'⟩ := by
  obtain ⟨l, hl, hF, hfr⟩ := H.fr
  have BF : ∀ b ∈ B, b ∉ a.F := fun b hb => by obtain ⟨d, h⟩ := hB b hb; exact (H.own.out _ h).2
  have BL : a.env.locals ∉ B := fun hb => by obtain ⟨d, h⟩ := hB _ hb; exact (H.ownL _ h).1 rfl
  have BC : ∀ x b, a.env.cells.lookup x = some b → b ∉ B := fun x b hx hb => by obtain ⟨d, h⟩ := hB _ hb; exact (H.ownL _ h).2.1 x hx
  have key : ∀ p ∈ ω', ∃ d, (p.1, d) ∈ σ.own := fun p hp => (hω p hp).elim (fun h => ⟨_, h.1⟩) fun h => hB _ h.1
  have x := H.mv
  refine ⟨H.ok, ?_, ⟨l, hl, hF, hfr.move m (fun b hb => hF ▸ hb) BF⟩, ?_, ?_, H.nb, H.newL, H.newC, ?_, H.cellsF, H.cellsA, ?_, ?_, ?_⟩
  · have nB : ∀ b, b ∈ B → b ∉ a.box → a.s0.heap.get? b = none := fun b hb hx => by
      obtain ⟨d, h⟩ := hB b hb
      exact (H.ownL _ h).2.2.resolve_left hx
    refine ⟨fun b o e => m.gg b o (x.gg b o e), m.gs, fun b o e => let ⟨o', e'⟩ := x.there b o e; (m.old b o' e').trans (x.old b o e), fun b o e => let ⟨o', e'⟩ := x.there b o e; m.there b o' e', fun b o h1 h2 e => ?_, fun b mm h1 h2 e => ?_, m.gens.trans x.gens, m.os.trans x.os⟩
    · exact m.kept b o (fun hb => by rw [nB b hb h1] at e; cases e) h2 (x.kept b o h1 h2 e)
    · exact m.keptF b mm (fun hb => BF b hb h2) h2 (x.keptF b mm h1 h2 e)
  · obtain ⟨mm, hn⟩ := H.ns; exact ⟨mm, m.ns BL hn⟩
  · obtain ⟨mm, hn⟩ := H.ns; obtain ⟨o, _, _, ho, _⟩ := hn; exact (m.old _ o ho).trans H.nl
  · intro y b hy
    obtain ⟨h1, h2, v, h3⟩ := H.cells y b hy
    have h4 := m.cell (BC y b hy) (H.cellsF y b hy).1 h3
    obtain ⟨o, ho, _⟩ := h3
    exact ⟨(m.old _ o ho).trans h1, h2, v, h4⟩
  · intro y d hy
    obtain ⟨v, hn, hr⟩ := H.loc y d hy
    exact ⟨v, hn.move (fun mm h => m.ns BL h) (fun b hb v h => m.cell (BC y b hb) (H.cellsF y b hb).1 h), hr.up m.gg⟩
  · refine ⟨fun p hp => ?_, fun p hp => ?_, nd⟩
    · rcases hω p hp with ⟨h1, h2⟩ | ⟨_, h2⟩
      · exact (H.own.at_ p h1).move m.gg fun o e => m.kept _ o h2 (H.own.out p h1).2 e
      · exact h2
    · obtain ⟨d, h⟩ := key p hp
      obtain ⟨o, ho⟩ := (H.own.at_ _ h).there
      exact ⟨(m.old _ o ho).trans (H.own.out _ h).1, (H.own.out _ h).2⟩
  · intro p hp
    obtain ⟨d, h⟩ := key p hp
    have := H.ownL (p.1, d) h
    exact this

noncomputable def bindsOf (names : List PySem.Str) (ds : List D) : List (PySem.Str × D) := names.zip ds

theorem bindL_skip {k : PySem.Str → Option NameKind} {x : PySem.Str} : ∀ {bs : List (PySem.Str × Value)} {m : PySem.Str → Option Value}, x ∉ bs.map (·.1) → bindL k bs m x = m x
  | [], _, _ => rfl
  | (n, v) :: r, m, h => by
    simp only [List.map_cons, List.mem_cons, not_or] at h
    unfold bindL
    rw [bindL_skip h.2]
    split
    · exact if_neg h.1
    · rfl
theorem bindC_skip {k : PySem.Str → Option NameKind} {x : PySem.Str} : ∀ {bs : List (PySem.Str × Value)} {m : PySem.Str → Option Value}, x ∉ bs.map (·.1) → bindC k bs m x = m x
  | [], _, _ => rfl
  | (n, v) :: r, m, h => by
    simp only [List.map_cons, List.mem_cons, not_or] at h
    unfold bindC
    rw [bindC_skip h.2]
    split
    · rfl
    · exact if_neg h.1
theorem bindL_get {k : PySem.Str → Option NameKind} {x : PySem.Str} {v : Value} (hk : k x = some .local) : ∀ {bs : List (PySem.Str × Value)} {m : PySem.Str → Option Value}, (bs.map (·.1)).Nodup → bs.lookup x = some v → bindL k bs m x = some v
  | [], _, _, h => by cases h
  | (n, w) :: r, m, hd, h => by
    simp only [List.map_cons, List.nodup_cons] at hd
    unfold bindL
    rw [List.lookup_cons] at h
    cases q : x == n with
    | true =>
      rw [q] at h; cases h
      have := eq_of_beq q; subst this
      rw [bindL_skip hd.1, if_pos hk]; simp
    | false =>
      rw [q] at h
      exact bindL_get hk hd.2 h
theorem bindC_get {k : PySem.Str → Option NameKind} {x : PySem.Str} {v : Value} (hk : ¬ k x = some .local) : ∀ {bs : List (PySem.Str × Value)} {m : PySem.Str → Option Value}, (bs.map (·.1)).Nodup → bs.lookup x = some v → bindC k bs m x = some v
  | [], _, _, h => by cases h
  | (n, w) :: r, m, hd, h => by
    simp only [List.map_cons, List.nodup_cons] at hd
    unfold bindC
    rw [List.lookup_cons] at h
    cases q : x == n with
    | true =>
      rw [q] at h; cases h
      have := eq_of_beq q; subst this
      rw [bindC_skip hd.1, if_neg hk]; simp
    | false =>
      rw [q] at h
      exact bindC_get hk hd.2 h
theorem zip_lookup {g : Heap} {x : PySem.Str} : ∀ {names : List PySem.Str} {vs : List Value} {ds : List D} {d : D}, RdAll c g vs ds → (names.zip ds).lookup x = some d → ∃ v, (names.zip vs).lookup x = some v ∧ Rd c g v d
  | [], _, _, _, _, h => by simp at h
  | n :: names, _, [], _, r, h => by simp at h
  | n :: names, _, e :: ds, d, .cons hr r, h => by
    rw [List.zip_cons_cons, List.lookup_cons] at h ⊢
    cases q : x == n with
    | true => rw [q] at h; cases h; exact ⟨_, rfl, hr⟩
    | false => rw [q] at h; exact zip_lookup r h

/-- the activation of a call -/
@[reducible] noncomputable def actOf (f : FuncData) (A : Around) (m : Nat) (L fa : Addr) (F : List Addr) (g0 : Heap) (s0 : Shared) (box : List Addr) : Act :=
  { A := A, n := m, env := callEnvC f L fa, F := F, g0 := g0, s0 := s0, box := box, full := true }

/-- what a body gives: r, and what is in the box after -/
structure Body (c : Cx) (a : Act) (σ : Sg) (body : List Stmt) (r : Out D) (ω : Own) : Prop where
  run : ∀ g s, St c a g s σ → wpAny c.M a.A (execs body a.env) (fun f s' => ∃ d, r = .ok d ∧ ∃ g' σ', g.StaysIn g' ∧ St c a g' s' σ' ∧ (f = .ret .none ∧ d = .none ∨ f = .next ∧ d = .none ∨ ∃ v, f = .ret v ∧ Rd c g' v d) ∧ ∀ p ∈ ω, p ∈ σ'.own)
    (Er c a g r) s
theorem Body.ret {body : List Stmt} {d : D} {ω ω' : Own} (h : Exs c a σ body (.ok (.ret d ω))) (hω : ∀ p ∈ ω', p ∈ ω) : Body c a σ body (.ok d) ω' := .mk fun g s H => by
  refine wpAny_mono (h.run g s H) (fun f s' h => ?_) fun _ _ e => (nomatch e.1)
  cases f with
  | next => obtain ⟨σ', q, _⟩ := h; cases q
  | ret v =>
    obtain ⟨d, ω, q, g', loc, k, H', r⟩ := h
    cases q
    exact ⟨d, rfl, g', _, k, H', .inr (.inr ⟨v, rfl, r⟩), hω⟩
  | _ => exact h.elim
theorem Body.next {body : List Stmt} {σ' : Sg} {ω' : Own} (h : Exs c a σ body (.ok (.next σ'))) (hω : ∀ p ∈ ω', p ∈ σ'.own) : Body c a σ body (.ok .none) ω' := .mk fun g s H => by
  refine wpAny_mono (h.run g s H) (fun f s' h => ?_) fun _ _ e => (nomatch e.1)
  cases f with
  | next => obtain ⟨σ', q, g', k, H'⟩ := h; cases q; exact ⟨_, rfl, g', _, k, H', .inr (.inl ⟨rfl, rfl⟩), hω⟩
  | ret v => obtain ⟨d, ω, q, _⟩ := h; cases q
  | _ => exact h.elim
theorem Body.err {body : List Stmt} {ω' : Own} (h : Exs c a σ body .err) : Body c a σ body .err ω' := .mk fun g s H => by
  refine wpAny_mono (h.run g s H) (fun f s' h => ?_) fun _ _ e => ⟨rfl, e.2⟩
  cases f with
  | next => obtain ⟨σ', q, _⟩ := h; cases q
  | ret v => obtain ⟨d, ω, q, _⟩ := h; cases q
  | _ => exact h.elim

/-- what is fixed of a function -/
structure FnData (c : Cx) (f : FuncData) (names : List PySem.Str) (body : List Stmt) : Prop where
  code : ∀ g, c.wd g → g.CodeRec f.code f.qualname
  body : f.body = .stmts body
  bind : ∀ vs : List Value, vs.length = names.length → bindArgs f ⟨vs, []⟩ = pure (names.zip vs)
  nodup : names.Nodup
  clo : f.closure = []
  kinds : ∀ x ∈ names, f.scope.names.lookup x = some .local ∨ (f.scope.names.lookup x = some .cell ∧ ∀ L, ((cellsFrom (L + 1) f.scope.names []).lookup x).isSome = true)
  cells : ∀ L x b, (cellsFrom (L + 1) f.scope.names []).lookup x = some b → L < b
  globals : f.globals = mainGlobals
  builtins : f.builtins = builtinsNs
  kind : f.scope.kind = .function
  co : f.scope.isCoroutine = false
  gen : f.scope.isGenerator = false

theorem lookup_isSome_of_mem {α β : Type} [BEq α] [LawfulBEq α] {x : α} : ∀ {l : List (α × β)}, x ∈ l.map (·.1) → (l.lookup x).isSome = true
  | [], h => by cases h
  | (n, v) :: r, h => by
    rw [List.lookup_cons]
    cases q : x == n with
    | true => rfl
    | false =>
      simp only [List.map_cons, List.mem_cons] at h
      exact lookup_isSome_of_mem (h.resolve_left fun e => by subst e; simp at q)

noncomputable def Out.with (r : Out D) (ω : Own) : Out (D × Own) := match r with
  | .ok d => .ok (d, ω)
  | .err => .err

/-- the state where a called body begins -/
theorem enter_ok {f : FuncData} {names : List PySem.Str} {body : List Stmt} (hf : FnData c f names body) {ds : List D} {ωi : Own} {vs : List Value} {A' : Around} {m : Nat} {L fa : Addr} {s₁ : Shared} (H : St c a g s σ) (hvs : RdAll c g vs ds) (hlen : ds.length = names.length)
    (hi : ∀ p ∈ ωi, p ∈ σ.own) (hnd : (ωi.map (·.1)).Nodup) (hA0 : A'.frames = a.A.frames) (hA1 : A'.handled = none) (hA2 : A'.depth + 1 + 10 * m ≤ 900) (hA3 : A'.units + 3 + 100 * m ≤ 9000) (hL : s.heap.objs.size = L)
    (hin : InCallC s (callEnvC f L fa).locals (bindL (callEnvC f L fa).kindOf (names.zip vs) fun _ => none) (callEnvC f L fa).cells (bindC (callEnvC f L fa).kindOf (names.zip vs) fun _ => none) s₁) :
    St c (actOf f (A'.deeper (callEnvC f L fa)) m L fa (L :: a.F) g s (ωi.map (·.1))) g s₁ ⟨names.zip ds, ωi⟩ := by
  obtain ⟨fenv, outer, h1, h2, h3⟩ := H.ok.frames
  obtain ⟨l, hl, hF, hfr⟩ := H.fr
  rw [h1] at hl; cases hl
  have hLn : s.heap.get? L = none := by rw [← hL]; exact new_at_size
  have keep := hin.toInCall.keep
  obtain ⟨h₁, tk, e₁⟩ := hin.toInCall.same
  have key : ∀ p ∈ ωi, p.1 ≠ L := fun p hp q => by
    obtain ⟨o, e⟩ := (H.own.at_ p (hi p hp)).there
    rw [q, hLn] at e; cases e
  have cg : ∀ x b, (cellsFrom (L + 1) f.scope.names []).lookup x = some b → s.heap.get? b = none := fun x b hb => by
    cases q : s.heap.get? b with
    | none => rfl
    | some o => have h1 := Heap.lt_size q; have h2 := hf.cells L x b hb; rw [hL] at h1; exact absurd h1 (Nat.not_lt.mpr (Nat.le_of_lt h2))
  have Fg : ∀ b ∈ a.F, ∃ o, s.heap.get? b = some o := fun b hb => by
    rw [hF] at hb
    obtain ⟨env, he, hf⟩ := List.mem_filterMap.mp hb
    obtain ⟨_, L', m, hL', hg, o, _, _, ho, _⟩ := hfr env he
    rw [hL'] at hf; cases hf; exact ⟨o, ho⟩
  have len : vs.length = names.length := by rw [hvs.length, hlen]
  have nodupZ : ((names.zip vs).map (·.1)).Nodup := by rw [List.map_fst_zip (by omega)]; exact hf.nodup
  have m₁ : Mv (L :: a.F) (ωi.map (·.1)) g s g s₁ := Mv.same H.stays keep (by rw [e₁]) (by rw [e₁])
  refine ⟨⟨hA1, hA2, hA3, hf.kind, hf.globals, hf.builtins, H.wd, ⟨callEnvC f L fa, fenv :: outer, ?_, rfl, ?_⟩, ⟨L, rfl⟩, ?_⟩, m₁, ⟨callEnvC f L fa :: fenv :: outer, ?_, ?_, ?_⟩, ⟨_, hin.toInCall.ns⟩, ?_, ?_, hLn, fun _ => cg, ?_, ?_, ?_, ?_, ⟨?_, ?_, hnd⟩, ?_⟩
  · show A'.frames.map _ = _; rw [hA0, h1]; rfl
  · show L :: a.F = _; rw [h3]; rfl
  · intro b hb
    obtain ⟨p, hp, rfl⟩ := List.mem_map.mp hb
    refine ⟨fun q => ?_, (H.own.at_ p (hi p hp)).there⟩
    rcases List.mem_cons.mp q with q | q
    · exact key p hp q
    · exact (H.own.out p (hi p hp)).2 q
  · show A'.frames.map _ = _; rw [hA0, h1]; rfl
  · show L :: a.F = _; rw [h3]; rfl
  · intro env he
    rcases List.mem_cons.mp he with q | q
    · subst q
      refine ⟨?_, L, _, rfl, H.g_new hLn, hin.toInCall.ns⟩
      show f.scope.kind ≠ _; rw [hf.kind]; decide
    · obtain ⟨hk, L', m, hL', hg, hN⟩ := hfr env q
      exact ⟨hk, L', m, hL', hg, hN.keeps keep⟩
  · exact H.g_new hLn
  · intro q; obtain ⟨p, hp, e⟩ := List.mem_map.mp q; exact key p hp e
  · intro x b hb
    refine ⟨H.g_new (cg x b hb), fun q => ?_, _, hin.cell x b hb⟩
    obtain ⟨p, hp, e⟩ := List.mem_map.mp q
    obtain ⟨o, e'⟩ := (H.own.at_ p (hi p hp)).there
    rw [e, cg x b hb] at e'; cases e'
  · intro x b hb
    have hlt := hf.cells L x b hb
    refine ⟨fun q => ?_, Nat.ne_of_gt hlt⟩
    rcases List.mem_cons.mp q with q | q
    · exact absurd q (Nat.ne_of_gt hlt)
    · obtain ⟨o, e⟩ := Fg b q; rw [cg x b hb] at e; cases e
  · intro x y b hx hy
    exact name_of_addr hin.apart (mem_of_lookup hx) (mem_of_lookup hy)
  · intro x d hx
    obtain ⟨v, hv, hr⟩ := zip_lookup hvs hx
    have hmem : x ∈ names := by
      have := mem_of_lookup hv
      exact (List.of_mem_zip this).1
    refine ⟨v, ?_, hr⟩
    rcases hf.kinds x hmem with k | ⟨k, kc⟩
    · exact .loc k hin.toInCall.ns (bindL_get k nodupZ hv)
    · obtain ⟨b, hb⟩ := Option.isSome_iff_exists.mp (kc L)
      have hc := hin.cell x b hb
      have hk' : ¬ (callEnvC f L fa).kindOf x = some .local := by
        show ¬ f.scope.names.lookup x = _; rw [k]; decide
      rw [bindC_get hk' nodupZ hv] at hc
      exact .cell (.inl k) hb hc
  · exact fun p hp => (H.own.at_ p (hi p hp)).move (fun _ _ e => e) fun o e => keep _ o e
  · intro p hp
    refine ⟨(H.own.out p (hi p hp)).1, fun q => ?_⟩
    rcases List.mem_cons.mp q with q | q
    · exact key p hp q
    · exact (H.own.out p (hi p hp)).2 q
  · intro p hp
    refine ⟨key p hp, fun x hx => ?_, .inl (List.mem_map.mpr ⟨p, hp, rfl⟩)⟩
    obtain ⟨o, e⟩ := (H.own.at_ p (hi p hp)).there
    rw [cg x _ hx] at e; cases e

/-- a call: the box is ωi, and ωo after -/
theorem call_fn {f : FuncData} {names : List PySem.Str} {body : List Stmt} (hf : FnData c f names body) {n : Nat} {ds : List D} {r : Out D} {ωi ωo ω' : Own} (hlen : ds.length = names.length) (hn : n + 1 ≤ a.n)
    (hi : ∀ p ∈ ωi, p ∈ σ.own) (hnd : (ωi.map (·.1)).Nodup) (hω : ∀ p ∈ ω', (p ∈ σ.own ∧ p.1 ∉ ωi.map (·.1)) ∨ (p.1 ∈ ωi.map (·.1) ∧ p ∈ ωo)) (nd : (ω'.map (·.1)).Nodup)
    (hb : ∀ A m L fa F g0 s0, n ≤ m → Body c (actOf f A m L fa F g0 s0 (ωi.map (·.1))) ⟨names.zip ds, ωi⟩ body r ωo) : CallOk c a σ (.fn f) ds (r.with ω') := .mk fun g s v vs H hv hvs => by
  · obtain ⟨fa, fo, rfl, hfa, hfd⟩ := hv.inv
    obtain ⟨fenv, outer, h1, h2, h3⟩ := H.ok.frames
    obtain ⟨l, hl, hF, hfr⟩ := H.fr
    rw [h1] at hl; cases hl
    have hd := H.ok.depth
    have hu := H.ok.units
    refine wpAny_call (codeAny_call_cells (vals := vs) (binds := names.zip vs) ?_ (H.stays _ _ hfa) hfd ((c.nolim H.wd).keeps H.stays) ((hf.code g H.wd).keeps H.stays) hf.body ?_ hf.clo ?_ ?_ hf.co hf.gen hf.kind)
    · show _ < 1000; omega
    · exact hf.bind vs (by rw [hvs.length, hlen])
    · intro x hx
      have hx' : x.1 ∈ names := (List.of_mem_zip hx).1
      exact (hf.kinds _ hx').imp id fun q => ⟨q.1, q.2 _⟩
    · intro s₁ hin
      generalize hL : s.heap.objs.size = L at hin ⊢
      have hLn : s.heap.get? L = none := by rw [← hL]; exact new_at_size
      have keep := hin.toInCall.keep
      obtain ⟨h₁, tk, e₁⟩ := hin.toInCall.same
      have key : ∀ p ∈ ωi, p.1 ≠ L := fun p hp q => by
        obtain ⟨o, e⟩ := (H.own.at_ p (hi p hp)).there
        rw [q, hLn] at e; cases e
      have cg : ∀ x b, (cellsFrom (L + 1) f.scope.names []).lookup x = some b → s.heap.get? b = none := fun x b hb => by
        cases q : s.heap.get? b with
        | none => rfl
        | some o => have h1 := Heap.lt_size q; have h2 := hf.cells L x b hb; rw [hL] at h1; exact absurd h1 (Nat.not_lt.mpr (Nat.le_of_lt h2))
      have Fg : ∀ b ∈ a.F, ∃ o, s.heap.get? b = some o := fun b hb => by
        rw [hF] at hb
        obtain ⟨env, he, hf⟩ := List.mem_filterMap.mp hb
        obtain ⟨_, L', m, hL', hg, o, _, _, ho, _⟩ := hfr env he
        rw [hL'] at hf; cases hf; exact ⟨o, ho⟩
      have len : vs.length = names.length := by rw [hvs.length, hlen]
      have nodupZ : ((names.zip vs).map (·.1)).Nodup := by rw [List.map_fst_zip (by omega)]; exact hf.nodup
      have m₁ : Mv (L :: a.F) (ωi.map (·.1)) g s g s₁ := Mv.same H.stays keep (by rw [e₁]) (by rw [e₁])
      have ok : St c (actOf f (a.A.deeper (callEnvC f L fa)) (a.n - 1) L fa (L :: a.F) g s (ωi.map (·.1))) g s₁ ⟨names.zip ds, ωi⟩ :=
        enter_ok hf H hvs hlen hi hnd rfl H.ok.hd (by omega) (by omega) hL hin
      have back : ∀ g' s' (σ' : Sg), g.StaysIn g' → St c (actOf f (a.A.deeper (callEnvC f L fa)) (a.n - 1) L fa (L :: a.F) g s (ωi.map (·.1))) g' s' σ' → ∀ ω'' : Own, (∀ p ∈ ω'', (p ∈ σ.own ∧ p.1 ∉ ωi.map (·.1)) ∨ (p.1 ∈ ωi.map (·.1) ∧ p ∈ σ'.own)) → (ω''.map (·.1)).Nodup → St c a g' s' ⟨σ.loc, ω''⟩ := by
        intro g' s' σ' k H' ω'' h1 h2
        have m' : Mv a.F (ωi.map (·.1)) g s g' s' := H'.mv.mono (fun b hb => .inl hb) (fun b hb => (List.mem_cons.mp hb).elim (fun q => .inr (q ▸ hLn)) .inl) fun b hb => .tail _ hb
        refine H.back m' (fun b hb => ?_) ω'' (fun p hp => ?_) h2
        · obtain ⟨p, hp, rfl⟩ := List.mem_map.mp hb; exact ⟨_, hi p hp⟩
        · exact (h1 p hp).imp id fun q => ⟨q.1, H'.own.at_ _ q.2⟩
      refine wpAny_mono ((hb (a.A.deeper (callEnvC f L fa)) (a.n - 1) L fa (L :: a.F) g s (by omega)).run g s₁ ok) (fun fl s' h => ?_) fun e s' h => ?_
      · obtain ⟨d, rfl, g', σ', k, H', hfl, hout⟩ := h
        have fin : ∀ v, Rd c g' v d → ∃ d' ω, Out.with (.ok d) ω' = .ok (d', ω) ∧ ∃ g', g.StaysIn g' ∧ St c a g' s' ⟨σ.loc, ω⟩ ∧ Rd c g' v d' := fun v hv =>
          ⟨d, ω', rfl, g', k, back g' s' σ' k H' ω' (fun p hp => (hω p hp).imp id fun q => ⟨q.1, hout p q.2⟩) nd, hv⟩
        rcases hfl with ⟨rfl, rfl⟩ | ⟨rfl, rfl⟩ | ⟨v, rfl, hv⟩
        · exact fin _ .none
        · exact fin _ .none
        · exact fin _ hv
      · obtain ⟨q, h⟩ := h
        refine leave_ok (a := actOf f (a.A.deeper (callEnvC f L fa)) (a.n - 1) L fa (L :: a.F) g s (ωi.map (·.1))) (o := r) ⟨q, h⟩ fun s'' ⟨_, g', σ', k, H', fl⟩ => ?_
        subst q
        refine ⟨rfl, g', ⟨σ.loc, []⟩, k, back g' s'' σ' k H' [] (fun p hp => by cases hp) (by simp), ?_⟩
        obtain ⟨e', oe, vs', dx, mx, tk', x1, x2, x3, x4, x5, x6, x7, x8, x9, x10, x11⟩ := fl.ex
        refine ⟨e', oe, vs', dx, mx, tk', x1, x2, H.s0_new x3, x4, x5, x6, x7, x8, x9, ⟨fun q => x10.1 (.tail _ q), H.s0_new x10.2.1, fun q => ?_⟩, .inr ?_⟩
        · obtain ⟨o, e⟩ := H.L_there; rw [← q, x10.2.1] at e; cases e
        rcases x11 with ⟨z, _⟩ | ⟨T, oT, ts, f', q', t1, t2, t3⟩
        · cases z
        · exact ⟨T, oT, ts, f', q', t1, H.s0_new t2, t3⟩
end

section
open PySem PySem.W PySem.Calls PyProof.Rows PySem.SeqAt
variable {c : Cx} {a : Act} {g : Heap} {s : Shared} {σ : Sg}

/-! owned things that change, come and go -/
theorem St.ownChange (H : St c a g s σ) {p : Addr} {d0 : D} (hp : (p, d0) ∈ σ.own) {h' : Heap} {k : Nat} (hk : ∀ b o, b ≠ p → s.heap.get? b = some o → h'.get? b = some o) (hex : a.s0.heap.get? p = none ∨ ∃ o, h'.get? p = some o) (ω' : Own)
    (hω : ∀ q ∈ ω', (q ∈ σ.own ∧ q.1 ≠ p) ∨ (q.1 = p ∧ OwnAt c g h' p q.2)) (nd : (ω'.map (·.1)).Nodup) : St c a g { s with heap := h', toks := k } ⟨σ.loc, ω'⟩ := by
  obtain ⟨l, hl, hF, hfr⟩ := H.fr
  have pF : p ∉ a.F := (H.own.out _ hp).2
  have pg : g.get? p = none := (H.own.out _ hp).1
  have pL : p ≠ a.env.locals := (H.ownL _ hp).1
  have pC : ∀ x b, a.env.cells.lookup x = some b → b ≠ p := fun x b hx q => (H.ownL _ hp).2.1 x (q ▸ hx)
  have pB : p ∈ a.box ∨ a.s0.heap.get? p = none := (H.ownL _ hp).2.2
  have key : ∀ q ∈ ω', ∃ d, (q.1, d) ∈ σ.own := fun q hq => (hω q hq).elim (fun h => ⟨_, h.1⟩) fun h => ⟨d0, h.1 ▸ hp⟩
  have ns : ∀ L m, L ≠ p → s.heap.Ns L m → h'.Ns L m := fun L m hL hn => hn.at' fun o e => hk L o hL e
  have x := H.mv
  obtain ⟨mm0, hns⟩ := H.ns
  have kc : ∀ y b w, a.env.cells.lookup y = some b → s.heap.IsCell b w → h'.IsCell b w := fun y b w hb ⟨o, e, d⟩ => ⟨o, hk b o (pC y b hb) e, d⟩
  refine ⟨H.ok, ?_, ⟨l, hl, hF, ?_⟩, ⟨mm0, ns _ _ (Ne.symm pL) hns⟩, H.nl, H.nb, H.newL, H.newC, ?_, H.cellsF, H.cellsA, ?_, ⟨fun q hq => ?_, fun q hq => ?_, nd⟩, fun q hq => ?_⟩
  · refine ⟨x.gg, fun b o e => hk b o (fun q => by rw [q, pg] at e; cases e) (x.gs b o e), x.old, fun b o e => ?_, fun b o hB hF' e => ?_, fun b m hB hF' e => ?_, x.gens, x.os⟩
    · by_cases hb : b = p
      · subst hb; exact hex.resolve_left fun q => by rw [q] at e; cases e
      · obtain ⟨o', e'⟩ := x.there b o e; exact ⟨o', hk b o' hb e'⟩
    · exact hk b o (fun q => pB.elim (fun h => hB (q ▸ h)) fun h => by rw [q, h] at e; cases e) (x.kept b o hB hF' e)
    · exact ns b m (fun q => pF (q ▸ hF')) (x.keptF b m hB hF' e)
  · intro env he
    obtain ⟨hk', L, mm, hf, hg, hN⟩ := hfr env he
    exact ⟨hk', L, mm, hf, hg, ns _ _ (fun q => pF (q ▸ hF ▸ mem_framesOf he hf)) hN⟩
  · intro y b hb
    obtain ⟨h1, h2, w, h3⟩ := H.cells y b hb
    exact ⟨h1, h2, w, kc y b _ hb h3⟩
  · intro y d hy
    obtain ⟨v, hn, hr⟩ := H.loc y d hy
    exact ⟨v, hn.move (fun mm hm => ns _ _ (Ne.symm pL) hm) (fun b hb v hv => kc y b _ hb hv), hr⟩
  · rcases hω q hq with ⟨h1, h2⟩ | ⟨h1, h2⟩
    · exact (H.own.at_ q h1).move (fun _ _ e => e) fun o e => hk _ o h2 e
    · have := h1 ▸ h2; exact this
  · obtain ⟨d, h⟩ := key q hq
    exact H.own.out (q.1, d) h
  · obtain ⟨d, h⟩ := key q hq
    exact H.ownL (q.1, d) h

theorem nodup_snoc {α β : Type} {l : List (α × β)} {p : α} {x y : β} (h : ((l ++ [(p, x)]).map (·.1)).Nodup) : ((l ++ [(p, y)]).map (·.1)).Nodup := by simpa using h
theorem ne_of_snoc {α β : Type} {l : List (α × β)} {p : α} {x : β} (h : ((l ++ [(p, x)]).map (·.1)).Nodup) : ∀ q ∈ l, q.1 ≠ p := fun q hq e => by
  rw [List.map_append, List.nodup_append] at h
  exact h.2.2 q.1 (List.mem_map.mpr ⟨q, hq, rfl⟩) p (by simp) e

/-- a new thing, owned -/
theorem St.newOwn (H : St c a g s σ) {o : Obj} {k : Nat} {d : D} (ho : OwnAt c g (s.heap.push o) s.heap.objs.size d) (hf : o.isFreed = false) : St c a g { s with heap := s.heap.push o, toks := k } ⟨σ.loc, (s.heap.objs.size, d) :: σ.own⟩ := by
  have H' : St c a g { s with heap := s.heap.push o, toks := k } σ := H.move (Mv.same H.stays fun b o' e => Heap.get?_push_of_some _ e)
  have hn : s.heap.get? s.heap.objs.size = none := new_at_size
  have ne : ∀ b o, s.heap.get? b = some o → b ≠ s.heap.objs.size := fun b o e q => by rw [q, hn] at e; cases e
  have keyN : ∀ q ∈ σ.own, q.1 ≠ s.heap.objs.size := fun q hq => let ⟨o, e⟩ := (H.own.at_ q hq).there; ne _ _ e
  obtain ⟨oL, eL⟩ := H.L_there
  refine ⟨H'.ok, H'.mv, H'.fr, H'.ns, H'.nl, H'.nb, H'.newL, H'.newC, H'.cells, H'.cellsF, H'.cellsA, H'.loc, ⟨fun q hq => ?_, fun q hq => ?_, ?_⟩, fun q hq => ?_⟩
  · rcases List.mem_cons.mp hq with rfl | hq
    · exact ho
    · exact H'.own.at_ q hq
  · rcases List.mem_cons.mp hq with rfl | hq
    · refine ⟨H.g_new hn, fun hF => ?_⟩
      obtain ⟨l, hl, hF', hfr⟩ := H.fr
      rw [hF'] at hF
      obtain ⟨env, he, hf⟩ := List.mem_filterMap.mp hF
      obtain ⟨_, L, m, hL, _, oo, _, _, hoo, _⟩ := hfr env he
      rw [hL] at hf; cases hf
      exact ne _ _ hoo rfl
    · exact H'.own.out q hq
  · simp only [List.map_cons, List.nodup_cons]
    refine ⟨fun hm => ?_, H.own.apart⟩
    obtain ⟨q, hq, e⟩ := List.mem_map.mp hm
    exact keyN q hq e
  · rcases List.mem_cons.mp hq with rfl | hq
    · refine ⟨Ne.symm (ne _ _ eL), fun x hx => ?_, .inr (H.s0_new hn)⟩
      obtain ⟨_, _, v, oo, e, _⟩ := H.cells x _ hx
      exact ne _ _ e rfl
    · exact H'.ownL q hq

/-- less is owned, or the order is another -/
theorem St.sub (H : St c a g s σ) {ω' : Own} (h : ∀ p ∈ ω', p ∈ σ.own) (nd : (ω'.map (·.1)).Nodup) : St c a g s ⟨σ.loc, ω'⟩ :=
  ⟨H.ok, H.mv, H.fr, H.ns, H.nl, H.nb, H.newL, H.newC, H.cells, H.cellsF, H.cellsA, H.loc, ⟨fun p hp => H.own.at_ p (h p hp), fun p hp => H.own.out p (h p hp), nd⟩, fun p hp => H.ownL p (h p hp)⟩
theorem St.swap (H : St c a g s σ) {ω₁ ω₂ : Own} (e : σ.own = ω₁ ++ ω₂) : St c a g s ⟨σ.loc, ω₂ ++ ω₁⟩ :=
  H.sub (fun p hp => by rw [e]; exact List.mem_append.mpr ((List.mem_append.mp hp).symm)) (by
    have := H.own.apart
    rw [e, List.map_append] at this
    rw [List.map_append]
    exact (List.perm_append_comm.nodup_iff).mp this)

/-! iterators -/
structure Iter (c : Cx) (I : Addr) (g0 : Heap) (ds : List D) (S : Nat → Heap → Prop) : Prop where
  there : ∀ i h, S i h → ∃ o, h.get? I = some o
  stay : ∀ i h h', S i h → (∀ o, h.get? I = some o → h'.get? I = some o) → g0.StaysIn h' → S i h'
  item : ∀ (A : Around) i (s : Shared) d (Q : Option Value → Shared → Prop) (E : Value → Shared → Prop), A.handled = none → ds[i]? = some d → g0.StaysIn s.heap → S i s.heap →
    (∀ v h' tk, Rd c g0 v d → S (i + 1) h' → (∀ b o, b ≠ I → s.heap.get? b = some o → h'.get? b = some o) → Q (some v) { s with heap := h', toks := tk }) → wpAny c.M A (pyNext (.ref I)) Q E s
  done : ∀ (A : Around) (s : Shared) (Q : Option Value → Shared → Prop) (E : Value → Shared → Prop), A.handled = none → g0.StaysIn s.heap → S ds.length s.heap →
    (∀ h' tk, (∀ b o, b ≠ I → s.heap.get? b = some o → h'.get? b = some o) → Q none { s with heap := h', toks := tk }) → wpAny c.M A (pyNext (.ref I)) Q E s
  self : ∀ (A : Around) i (s : Shared) (Q : Value → Shared → Prop) (E : Value → Shared → Prop), A.handled = none → g0.StaysIn s.heap → S i s.heap → Q (.ref I) s → wpAny c.M A (pyIter (.ref I)) Q E s
  letgo : ∀ (A : Around) i (s : Shared) target v (Q : Unit → Shared → Prop) (E : Value → Shared → Prop), S i s.heap → Q () s → wpAny c.M A (letOwnedTupleGo target (.ref I) v) Q E s

theorem letgo_of {M : Model} {A : Around} {I : Addr} {o : Obj} {n : String} {vs : Array Value} {target : Expr} {v : Value} {Q : Unit → Shared → Prop} {E : Value → Shared → Prop} (ho : s.heap.get? I = some o) (hc : o.cls = .type n) (hd : o.data = .fields vs)
    (hn : ["enumerate", "zip", "dict_itemiterator", "dict_reverseitemiterator", "odict_iterator", "itertools.zip_longest", "itertools.pairwise"].contains n = false) (q : Q () s) : wpAny M A (letOwnedTupleGo target (.ref I) v) Q E s := by
  unfold letOwnedTupleGo
  split
  · split
    · rename_i h
      cases h
      refine wpAny_bind (wpAny_load ho ?_)
      rw [hc, hd]
      dsimp only
      rw [hn]
      exact wpAny_pure q
    · exact wpAny_pure q
  · split
    · rename_i h
      cases h
      refine wpAny_bind (wpAny_load ho ?_)
      rw [hc, hd]
      dsimp only
      rw [hn]
      exact wpAny_pure q
    · exact wpAny_pure q
  · exact wpAny_pure q

/-- v, which reads d, may be walked: ds -/
structure Iterable (c : Cx) (d : D) (ds : List D) : Prop where
  run : ∀ (a : Act) g s σ v (Q : Value → Shared → Prop) (E : Value → Shared → Prop), St c a g s σ → Rd c g v d →
  (∀ (o : Obj) S tk, o.isFreed = false → Iter c s.heap.objs.size g ds S → S 0 (s.heap.push o) → Q (.ref s.heap.objs.size) { s with heap := s.heap.push o, toks := tk }) → wpAny c.M a.A (pyIter v) Q E s
theorem Iter.ofWalks {I : Addr} {g0 : Heap} {ds : List D} {S : Nat → Heap → Prop} {n : Nat} {P : Nat → Value → Prop} {fp : List Addr} (W : ∀ A : Around, A.handled = none → Walks c.prog c.w A I fp [I] n P S) (hn : n = ds.length)
    (there : ∀ i h, S i h → ∃ o n vs, h.get? I = some o ∧ o.cls = .type n ∧ o.data = .fields vs ∧ ["enumerate", "zip", "dict_itemiterator", "dict_reverseitemiterator", "odict_iterator", "itertools.zip_longest", "itertools.pairwise"].contains n = false)
    (stay : ∀ i h h', S i h → (∀ o, h.get? I = some o → h'.get? I = some o) → g0.StaysIn h' → S i h')
    (hP : ∀ i v d, P i v → ds[i]? = some d → Rd c g0 v d) : Iter c I g0 ds S where
  there := fun i h x => let ⟨o, _, _, e, _⟩ := there i h x; ⟨o, e⟩
  stay := stay
  item := fun A i s d Q E hh hd k st hQ => by
    have hi : i < n := by rw [hn]; exact (List.getElem?_eq_some_iff.mp hd).1
    refine (W A hh).item i s Q E hi st fun v h' tk p st' keep => hQ v h' tk (hP i v d p hd) st' fun b o hb e => keep b o (by simpa using hb) e
  done := fun A s Q E hh k st hQ => by
    rw [← hn] at st
    exact (W A hh).done s Q E st fun h' tk keep => hQ h' tk fun b o hb e => keep b o (by simpa using hb) e
  self := fun A i s Q E hh k st q => (W A hh).self i s Q E st q
  letgo := fun A i s target v Q E st q => let ⟨o, n, vs, e, hc, hd, hn⟩ := there i _ st; letgo_of e hc hd hn q

theorem Iterable.lst (l : List D) : Iterable c (.lst l) l := .mk fun a g s σ v Q E H hv hQ => by
  · obtain ⟨ax, vs, rfl, h, r⟩ := hv.inv
    have hl := isList_up H.stays h
    refine wpAny_pyIter_list hl (hQ _ (fun i h => h.IsListIter s.heap.objs.size ax i ∧ h.IsList ax vs.toArray) s.toks rfl ?_ ⟨⟨_, Heap.get?_push_size _ rfl, rfl, rfl⟩, hl.push _⟩)
    have hne : ax ≠ s.heap.objs.size := by obtain ⟨o, e, _⟩ := hl; exact Nat.ne_of_lt (Heap.lt_size e)
    refine Iter.ofWalks (fun A hh => Walks.list hh s.heap.objs.size ax hne vs.toArray) (by simp [r.length]) (fun i h st => ?_) (fun i h h' st e k => ⟨st.1.at e, isList_up k ‹_›⟩) fun i v d p hd => ?_
    · obtain ⟨o, e, hc, hd⟩ := st.1; exact ⟨o, _, _, e, hc, hd, by decide⟩
    · obtain ⟨w, e, hr⟩ := r.get hd
      have p' : vs[i]? = some v := by simpa using p
      rw [e] at p'; cases p'; exact hr
theorem Iterable.bytes (b : List UInt8) : Iterable c (.bytes b) (b.map fun x => .int x.toNat) := .mk fun a g s σ v Q E H hv hQ => by
  obtain ⟨t, rfl⟩ := hv.inv
  refine KBw.pyIter_bytes (hQ _ (fun i h => KBw.IsBytesIter h s.heap.objs.size b.toArray t i) s.toks rfl ?_ ⟨_, Heap.get?_push_size _ rfl, rfl, rfl⟩)
  refine Iter.ofWalks (fun A hh => KBw.walks hh s.heap.objs.size b.toArray t) (by simp) (fun i h st => ?_) (fun i h h' st e k => ?_) fun i v d p hd => ?_
  · obtain ⟨o, e, hc, hd⟩ := st; exact ⟨o, _, _, e, hc, hd, by decide⟩
  · obtain ⟨o, ho, r⟩ := st; exact ⟨o, e o ho, r⟩
  · obtain ⟨x, u, e, rfl⟩ := p
    have e' : b[i]? = some x := by simpa using e
    rw [List.getElem?_map, e'] at hd
    cases hd
    exact .int _ _

/-! targets -/
structure As (c : Cx) (a : Act) (σ : Sg) (target : Expr) (d : D) (σ' : Sg) : Prop where
  run : ∀ g s v, St c a g s σ → Rd c g v d → wpAny c.M a.A (assign target a.env v) (fun _ s' => ∃ g', g.StaysIn g' ∧ St c a g' s' σ') (fun _ _ => False) s
theorem As.name {x : PySem.Str} {p : Pos} {d : D} (hx : Stores a x) : As c a σ (.Name x p) d ⟨(x, d) :: σ.loc, σ.own⟩ := .mk fun g s v H hv =>
  wpAny_assign_Name (store_ok H hv hx fun s' H' => ⟨g, fun _ _ e => e, H'⟩)

structure AsAll (c : Cx) (a : Act) (σ : Sg) (ts : List (Value → Sem Unit)) (ds : List D) (σ' : Sg) : Prop where
  run : ∀ g s vs, St c a g s σ → RdAll c g vs ds → wpAny c.M a.A (assignInOrder ts vs) (fun _ s' => ∃ g', g.StaysIn g' ∧ St c a g' s' σ') (fun _ _ => False) s
theorem AsAll.nil : AsAll c a σ [] [] σ := .mk fun g s vs H hv => assignInOrder_nil ⟨g, fun _ _ e => e, H⟩
theorem AsAll.cons {t : Expr} {ts : List (Value → Sem Unit)} {d : D} {ds : List D} {σ₁ σ₂ : Sg} (h : As c a σ t d σ₁) (h2 : AsAll c a σ₁ ts ds σ₂) : AsAll c a σ (assign t a.env :: ts) (d :: ds) σ₂ := .mk fun g s vs H hv => by
  · obtain ⟨_, _, rfl, hv, r⟩ := hv.inv
    refine assignInOrder_cons (wpAny_mono (h.run g s _ H hv) (fun _ s₁ ⟨g₁, k₁, H₁⟩ => ?_) fun _ _ e => e)
    exact wpAny_mono (h2.run g₁ s₁ _ H₁ (r.up k₁)) (fun _ s₂ ⟨g₂, k₂, H₂⟩ => ⟨g₂, fun b o e => k₂ b o (k₁ b o e), H₂⟩) fun _ _ e => e
theorem AsAll.bind {x : PySem.Str} {ts : List (Value → Sem Unit)} {d : D} {ds : List D} {σ₂ : Sg} (hx : Stores a x) (h2 : AsAll c a ⟨(x, d) :: σ.loc, σ.own⟩ ts ds σ₂) : AsAll c a σ (bindName a.env x :: ts) (d :: ds) σ₂ := .mk fun g s vs H hv => by
  · obtain ⟨_, _, rfl, hv, r⟩ := hv.inv
    exact assignInOrder_cons (wpAny_bindName (store_ok H hv hx fun s' H' => h2.run g s' _ H' r))
theorem extBut_new {g : Heap} {h h' : Heap} {F : List Addr} {k : Nat} (hs : Heap.ExtBut s.heap.objs.size s.heap h') (kg : g.StaysIn s.heap) : Mv F [] g s g { s with heap := h', toks := k } :=
  Mv.same kg fun b o e => hs b o (fun q => by rw [q, new_at_size] at e; cases e) e
theorem As.tuple {elts : List Expr} {k : Nat} {p : Pos} {ds : List D} {σ' : Sg} (h : AsAll c a σ ((assignEach elts a.env).map (·.2)) ds σ') (hn : (assignEach elts a.env).length = ds.length := by rfl) (hstar : (assignEach elts a.env).findIdx? (·.1) = none := by rfl) :
    As c a σ (.Tuple elts k p) (.tup ds) σ' := .mk fun g s v H hv => by
  · obtain ⟨ax, vs, rfl, ht, r⟩ := hv.inv
    refine wpAny_assign_Tuple H.ok.hd (isTuple_up H.stays ht) (by rw [hn]; simp [r.length]) hstar fun h' hs => ?_
    have m : Mv a.F [] g s g { s with heap := h' } := extBut_new (h := s.heap) hs H.stays
    exact h.run g _ _ (H.move m) r

/-! loops -/
theorem ErT.any {α : Type} {tb : Bool} {o : Out α} {x : Value} {s' : Shared} (h : ErT tb c a g o x s') : Er c a g o x s' := let ⟨q, g', σ', k, H, f⟩ := h; ⟨q, g', σ', k, H, f.any⟩
theorem ErT.up {α : Type} {tb : Bool} {g g₁ : Heap} {o : Out α} {x : Value} {s' : Shared} (k : g.StaysIn g₁) (h : ErT tb c a g₁ o x s') : ErT tb c a g o x s' := let ⟨q, g', σ', k', H⟩ := h; ⟨q, g', σ', fun b o e => k' b o (k b o e), H⟩
theorem ErT.cast {α β : Type} {tb : Bool} {g : Heap} {x : Value} {s' : Shared} (h : ErT tb c a g (.err : Out α) x s') : ErT tb c a g (.err : Out β) x s' := ⟨rfl, h.2⟩
theorem loopErr {α β : Type} {gi : Heap} {x : Value} {s' : Shared} (k : g.StaysIn gi) (he : Er c a gi (.err : Out α) x s') : notedBy c.M a.A a.env (fun e s' => cameBackBy c.M a.A a.env (Er c a g (.err : Out β)) e s') x s' :=
  noted_ok he fun s₄ he' => back_ok he' fun s₅ he'' => (ErT.up k he''.any).cast
inductive Turns (c : Cx) (a : Act) (target : Expr) (body : List Stmt) : Sg → List D → Out Fin → Prop
  | nil {σ : Sg} : Turns c a target body σ [] (.ok (.next σ))
  | go {σ : Sg} {d : D} {ds : List D} {l₁ : List (PySem.Str × D)} {σ₂ : Sg} {o : Out Fin} : (∀ ζ, As c a ⟨σ.loc, σ.own ++ ζ⟩ target d ⟨l₁, σ.own ++ ζ⟩) → (∀ ζ, Exs c a ⟨l₁, σ.own ++ ζ⟩ body (.ok (.next ⟨σ₂.loc, σ₂.own ++ ζ⟩))) →
      Turns c a target body σ₂ ds o → Turns c a target body σ (d :: ds) o
  | ret {σ : Sg} {d : D} {ds : List D} {l₁ : List (PySem.Str × D)} {r : D} {ω : Own} : (∀ ζ, As c a ⟨σ.loc, σ.own ++ ζ⟩ target d ⟨l₁, σ.own ++ ζ⟩) → (∀ ζ, Exs c a ⟨l₁, σ.own ++ ζ⟩ body (.ok (.ret r (ω ++ ζ)))) →
      Turns c a target body σ (d :: ds) (.ok (.ret r ω))
  | err {σ : Sg} {d : D} {ds : List D} {l₁ : List (PySem.Str × D)} : (∀ ζ, As c a ⟨σ.loc, σ.own ++ ζ⟩ target d ⟨l₁, σ.own ++ ζ⟩) → (∀ ζ, Exs c a ⟨l₁, σ.own ++ ζ⟩ body .err) → Turns c a target body σ (d :: ds) .err

theorem Iter.step {I : Addr} {g0 : Heap} {ds : List D} {S : Nat → Heap → Prop} (W : Iter c I g0 ds S) {i j : Nat} (k0 : g0.StaysIn g) {l : List (PySem.Str × D)} {ω : Own} (H : St c a g s ⟨l, ω ++ [(I, .raw (S i))]⟩) {h' : Heap} {tk : Nat} (st : S j h')
    (hk : ∀ b o, b ≠ I → s.heap.get? b = some o → h'.get? b = some o) : St c a g { s with heap := h', toks := tk } ⟨l, ω ++ [(I, .raw (S j))]⟩ := by
  refine H.ownChange (p := I) (d0 := .raw (S i)) (by simp) hk (.inr (W.there j h' st)) (ω ++ [(I, .raw (S j))]) (fun q hq => ?_) (nodup_snoc H.own.apart)
  rcases List.mem_append.mp hq with hq | hq
  · exact .inl ⟨List.mem_append_left _ hq, ne_of_snoc H.own.apart q hq⟩
  · simp only [List.mem_singleton] at hq; subst hq
    exact .inr ⟨rfl, .raw (W.there j h' st) fun h'' k e => W.stay j h' h'' st e fun b o e => k b o (k0 b o e)⟩
theorem St.theRaw {I : Addr} {S : Heap → Prop} {l : List (PySem.Str × D)} {ω : Own} (H : St c a g s ⟨l, ω ++ [(I, .raw S)]⟩) : S s.heap := by
  have := H.own.at_ (I, .raw S) (by simp)
  cases this with
  | raw _ h => exact h _ H.stays fun _ e => e
theorem St.dropLast {I : Addr} {d : D} {l : List (PySem.Str × D)} {ω : Own} (H : St c a g s ⟨l, ω ++ [(I, d)]⟩) : St c a g s ⟨l, ω⟩ :=
  H.sub (fun p hp => List.mem_append_left _ hp) (by have := H.own.apart; rw [List.map_append, List.nodup_append] at this; exact this.1)

theorem Ex.for_ {target iter : Expr} {body : List Stmt} {pos : Pos} {d : D} {ds : List D} {ω : Own} {o : Out Fin} (h : Ev c a σ iter (.ok (d, ω))) (hi : Iterable c d ds) (t : Turns c a target body ⟨σ.loc, ω⟩ ds o)
    (hs : ∀ x, foldedSetIterable iter a.env x = pure x := by intro _; rfl) : Ex c a σ (.For target iter body [] pos) o := .mk fun g s H => by
  refine wpAny_For (h.then H (fun v s₁ g₁ k₁ H₁ r₁ => ?_)) hs
  refine hi.run a g₁ s₁ _ v _ _ H₁ r₁ fun ob S tk hfr W st => ?_
  generalize hI : s₁.heap.objs.size = I at W st ⊢
  have H₂ : St c a g₁ { s₁ with heap := s₁.heap.push ob, toks := tk } ⟨σ.loc, ω ++ [(I, .raw (S 0))]⟩ := by
    have := H₁.newOwn (o := ob) (k := tk) (d := .raw (S 0)) (.raw ⟨ob, Heap.get?_push_size _ hfr⟩ fun h'' k e => ?_) hfr
    · rw [hI] at this; exact this.swap (ω₁ := [(I, .raw (S 0))]) rfl
    · rw [hI] at e; exact W.stay 0 _ h'' st e k
  refine codeAny_forLoop_any (fun n s' => ∃ i σi gi, n + i = ds.length ∧ Turns c a target body σi (ds.drop i) o ∧ g₁.StaysIn gi ∧ St c a gi s' ⟨σi.loc, σi.own ++ [(I, .raw (S i))]⟩) (fun n s' hI' => ?_) ds.length
    ⟨0, ⟨σ.loc, ω⟩, g₁, by simp, by simpa using t, fun _ _ e => e, H₂⟩
  obtain ⟨i, σi, gi, hn, ht, kg, Hi⟩ := hI'
  have sti := Hi.theRaw
  have ks : g₁.StaysIn s'.heap := fun b o e => Hi.stays b o (kg b o e)
  by_cases hend : i = ds.length
  · subst hend
    rw [List.drop_length] at ht
    cases ht
    refine W.done a.A s' _ _ Hi.ok.hd ks sti fun h' tk' hk => ?_
    refine wpAny_execs_nil ⟨σi, rfl, gi, fun b o e => kg b o (k₁ b o e), ?_⟩
    refine Hi.ownChange (p := I) (d0 := .raw (S ds.length)) (by simp) hk (.inl (H₁.s0_new (by rw [← hI]; exact new_at_size))) σi.own (fun q hq => .inl ⟨List.mem_append_left _ hq, ne_of_snoc Hi.own.apart q hq⟩) ?_
    · have := Hi.own.apart; rw [List.map_append, List.nodup_append] at this; exact this.1
  · have hlt : i < ds.length := by omega
    have hdrop : ds.drop i = ds[i] :: ds.drop (i + 1) := List.drop_eq_getElem_cons hlt
    rw [hdrop] at ht
    generalize hd : ds[i] = d' at ht
    have hget : ds[i]? = some d' := by rw [List.getElem?_eq_getElem hlt, hd]
    refine W.item a.A i s' d' _ _ Hi.ok.hd hget ks sti fun v h' tk' hv st' hk => ?_
    have H₃ := W.step (j := i + 1) (tk := tk') kg Hi st' hk
    refine W.letgo a.A (i + 1) _ target v _ _ st' ?_
    cases ht with
    | go hA hB hT =>
      refine wpAny_mono ((hA [(I, .raw (S (i + 1)))]).run gi _ v H₃ (hv.up kg)) (fun _ s₄ ⟨g₄, k₄, H₄⟩ => ?_) fun _ _ e => e.elim
      refine wpAny_mono ((hB [(I, .raw (S (i + 1)))]).run g₄ s₄ H₄) (fun f s₅ h₅ => ?_) fun _ _ e => (nomatch e.1)
      cases f with
      | next =>
        obtain ⟨σ', q, g₅, k₅, H₅⟩ := h₅
        cases q
        exact ⟨ds.length - (i + 1), by omega, i + 1, _, g₅, by omega, hT, fun b o e => k₅ b o (k₄ b o (kg b o e)), H₅⟩
      | ret v' => obtain ⟨_, _, q, _⟩ := h₅; cases q
      | _ => exact h₅.elim
    | ret hA hB =>
      refine wpAny_mono ((hA [(I, .raw (S (i + 1)))]).run gi _ v H₃ (hv.up kg)) (fun _ s₄ ⟨g₄, k₄, H₄⟩ => ?_) fun _ _ e => e.elim
      refine wpAny_mono ((hB [(I, .raw (S (i + 1)))]).run g₄ s₄ H₄) (fun f s₅ h₅ => ?_) fun _ _ e => (nomatch e.1)
      cases f with
      | next => obtain ⟨_, q, _⟩ := h₅; cases q
      | ret v' =>
        obtain ⟨_, _, q, g₅, loc, k₅, H₅, r₅⟩ := h₅
        cases q
        exact ⟨_, _, rfl, g₅, loc, fun b o e => k₅ b o (k₄ b o (kg b o (k₁ b o e))), H₅.dropLast, r₅⟩
      | _ => exact h₅.elim
    | err hA hB =>
      refine wpAny_mono ((hA [(I, .raw (S (i + 1)))]).run gi _ v H₃ (hv.up kg)) (fun _ s₄ ⟨g₄, k₄, H₄⟩ => ?_) fun _ _ e => e.elim
      refine wpAny_mono ((hB [(I, .raw (S (i + 1)))]).run g₄ s₄ H₄) (fun f s₅ h₅ => ?_) fun x s₅ he => loopErr (fun b o e => k₄ b o (kg b o (k₁ b o e))) he
      cases f with
      | next => obtain ⟨_, q, _⟩ := h₅; cases q
      | ret v' => obtain ⟨_, _, q, _⟩ := h₅; cases q
      | _ => exact h₅.elim
end

section
open PySem PySem.W PySem.Calls PyProof.Rows PySem.SeqAt
variable {c : Cx} {a : Act} {g : Heap} {s : Shared} {σ : Sg}

theorem mid_ne {ω₁ ω₂ : Own} {p : Addr} {d : D} (h : ((ω₁ ++ (p, d) :: ω₂).map (·.1)).Nodup) : ∀ q, q ∈ ω₁ ++ ω₂ → q.1 ≠ p := fun q hq e => by
  rw [List.map_append, List.map_cons, List.nodup_append] at h
  obtain ⟨h1, h2, h3⟩ := h
  rcases List.mem_append.mp hq with hq | hq
  · exact h3 q.1 (List.mem_map.mpr ⟨q, hq, rfl⟩) p (by simp) e
  · exact (List.nodup_cons.mp h2).1 (List.mem_map.mpr ⟨q, hq, e⟩)
theorem mid_nodup {ω₁ ω₂ : Own} {p : Addr} {d : D} (h : ((ω₁ ++ (p, d) :: ω₂).map (·.1)).Nodup) : ((ω₁ ++ ω₂).map (·.1)).Nodup := by
  rw [List.map_append, List.map_cons, List.nodup_append] at h
  rw [List.map_append, List.nodup_append]
  exact ⟨h.1, (List.nodup_cons.mp h.2.1).2, fun x hx y hy => h.2.2 x hx y (List.mem_cons_of_mem _ hy)⟩
theorem mid_again {ω₁ ω₂ : Own} {p : Addr} {d d' : D} (h : ((ω₁ ++ (p, d) :: ω₂).map (·.1)).Nodup) : ((ω₁ ++ (p, d') :: ω₂).map (·.1)).Nodup := by simpa using h
theorem mid_mem {ω₁ ω₂ : Own} {p : Addr} {d : D} {q : Addr × D} (h : q ∈ ω₁ ++ ω₂) : q ∈ ω₁ ++ (p, d) :: ω₂ := by
  rcases List.mem_append.mp h with h | h
  · exact List.mem_append_left _ h
  · exact List.mem_append_right _ (.tail _ h)

theorem St.replace {l : List (PySem.Str × D)} {ω₁ ω₂ : Own} {p : Addr} {d d' : D} (H : St c a g s ⟨l, ω₁ ++ (p, d) :: ω₂⟩) {h' : Heap} {k : Nat} (hk : ∀ b o, b ≠ p → s.heap.get? b = some o → h'.get? b = some o) (ho : OwnAt c g h' p d') :
    St c a g { s with heap := h', toks := k } ⟨l, ω₁ ++ (p, d') :: ω₂⟩ := by
  refine H.ownChange (p := p) (d0 := d) (by simp) hk (.inr ho.there) _ (fun q hq => ?_) (mid_again H.own.apart)
  rcases List.mem_append.mp hq with hq | hq
  · exact .inl ⟨List.mem_append_left _ hq, mid_ne H.own.apart q (List.mem_append_left _ hq)⟩
  · rcases List.mem_cons.mp hq with rfl | hq
    · exact .inr ⟨rfl, ho⟩
    · exact .inl ⟨List.mem_append_right _ (.tail _ hq), mid_ne H.own.apart q (List.mem_append_right _ hq)⟩
theorem St.remove {l : List (PySem.Str × D)} {ω₁ ω₂ : Own} {p : Addr} {d : D} (H : St c a g s ⟨l, ω₁ ++ (p, d) :: ω₂⟩) {h' : Heap} {k : Nat} (hk : ∀ b o, b ≠ p → s.heap.get? b = some o → h'.get? b = some o) (h0 : a.s0.heap.get? p = none) :
    St c a g { s with heap := h', toks := k } ⟨l, ω₁ ++ ω₂⟩ :=
  H.ownChange (p := p) (d0 := d) (by simp) hk (.inl h0) _ (fun q hq => .inl ⟨mid_mem hq, mid_ne H.own.apart q hq⟩) (mid_nodup H.own.apart)
theorem St.forgetOwn {l : List (PySem.Str × D)} {ω₁ ω₂ : Own} {p : Addr} {d : D} (H : St c a g s ⟨l, ω₁ ++ (p, d) :: ω₂⟩) : St c a g s ⟨l, ω₁ ++ ω₂⟩ := H.sub (fun q hq => mid_mem hq) (mid_nodup H.own.apart)
theorem St.forgetLoc {l l' : List (PySem.Str × D)} {ω : Own} (H : St c a g s ⟨l, ω⟩) (h : ∀ x d, l'.lookup x = some d → l.lookup x = some d) : St c a g s ⟨l', ω⟩ :=
  ⟨H.ok, H.mv, H.fr, H.ns, H.nl, H.nb, H.newL, H.newC, H.cells, H.cellsF, H.cellsA, fun x d hx => H.loc x d (h x d hx), H.own, H.ownL⟩

/-- what is not in the heap s₁ may be taken as owned -/
theorem St.adopt {g₁ : Heap} {s₁ : Shared} {σ₁ : Sg} (H₁ : St c a g₁ s₁ σ₁) (H : St c a g s σ) {p : Addr} {d : D} (hn : s₁.heap.get? p = none) (hg : g.get? p = none) (ho : OwnAt c g s.heap p d) (hk : ∀ q ∈ σ.own, q.1 ≠ p) : St c a g s ⟨σ.loc, (p, d) :: σ.own⟩ := by
  refine ⟨H.ok, H.mv, H.fr, H.ns, H.nl, H.nb, H.newL, H.newC, H.cells, H.cellsF, H.cellsA, H.loc, ⟨fun q hq => ?_, fun q hq => ?_, ?_⟩, fun q hq => ?_⟩
  · rcases List.mem_cons.mp hq with rfl | hq
    · exact ho
    · exact H.own.at_ q hq
  · rcases List.mem_cons.mp hq with rfl | hq
    · refine ⟨hg, fun hF => ?_⟩
      obtain ⟨l, hl, hF', hfr⟩ := H₁.fr
      rw [hF'] at hF
      obtain ⟨env, he, hf⟩ := List.mem_filterMap.mp hF
      obtain ⟨_, L, m, hL, _, oo, _, _, hoo, _⟩ := hfr env he
      rw [hL] at hf; cases hf
      rw [hn] at hoo; cases hoo
    · exact H.own.out q hq
  · simp only [List.map_cons, List.nodup_cons]
    refine ⟨fun hm => ?_, H.own.apart⟩
    obtain ⟨q, hq, e⟩ := List.mem_map.mp hm
    exact hk q hq e
  · rcases List.mem_cons.mp hq with rfl | hq
    · refine ⟨fun e => ?_, fun x hx => ?_, .inr (H₁.s0_new hn)⟩
      · obtain ⟨o, e'⟩ := H₁.L_there; rw [← e, hn] at e'; cases e'
      · obtain ⟨_, _, v, oo, e', _⟩ := H₁.cells x _ hx; rw [hn] at e'; cases e'
    · exact H.ownL q hq

/-- what may be frozen -/
inductive Freezes : D → Prop
  | lst {l : List D} : Freezes (.lst l)
  | dct {l : List (List UInt8 × D)} : Freezes (.dct l)
theorem St.freeze {l : List (PySem.Str × D)} {ω₁ ω₂ : Own} {p : Addr} {d : D} (H : St c a g s ⟨l, ω₁ ++ (p, d) :: ω₂⟩) (hb : p ∉ a.box) (hd : Freezes d) :
    ∃ g', g.StaysIn g' ∧ St c a g' s ⟨l, ω₁ ++ ω₂⟩ ∧ Rd c g' (.ref p) d ∧ ∀ b, b ≠ p → g'.get? b = g.get? b := by
  have hm : (p, d) ∈ ω₁ ++ (p, d) :: ω₂ := by simp
  obtain ⟨pg, pF⟩ := H.own.out _ hm
  obtain ⟨pL, pC, pB⟩ := H.ownL _ hm
  have p0 := pB.resolve_left hb
  have gg := addTo_up H.stays [p]
  have old : ∀ b, b ≠ p → (addTo g s.heap [p]).get? b = g.get? b := fun b hb => addTo_old H.stays (by simpa using hb)
  obtain ⟨lf, hl, hF, hfr⟩ := H.fr
  have x := H.mv
  refine ⟨addTo g s.heap [p], gg, ?_, ?_, old⟩
  · refine ⟨H.ok, ⟨fun b o e => gg b o (x.gg b o e), addTo_in _ _ _, fun b o e => ?_, x.there, x.kept, x.keptF, x.gens, x.os⟩, ⟨lf, hl, hF, fun env he => ?_⟩, H.ns, (old _ (Ne.symm pL)).trans H.nl, H.nb, H.newL, H.newC, fun y b hy => ?_, H.cellsF, H.cellsA, fun y d hy => ?_, ⟨fun q hq => ?_, fun q hq => ?_, mid_nodup H.own.apart⟩, fun q hq => H.ownL q (mid_mem hq)⟩
    · exact (old b fun q => by rw [q] at e; rw [p0] at e; cases e).trans (x.old b o e)
    · obtain ⟨hk, L, m, hL, hg, hN⟩ := hfr env he
      exact ⟨hk, L, m, hL, (old L fun q => pF (q ▸ hF ▸ mem_framesOf he hL)).trans hg, hN⟩
    · obtain ⟨h1, h2, w, h3⟩ := H.cells y b hy
      exact ⟨(old b fun q => pC y (q ▸ hy)).trans h1, h2, w, h3⟩
    · obtain ⟨v, hn, hr⟩ := H.loc y d hy
      exact ⟨v, hn, hr.up gg⟩
    · exact (H.own.at_ q (mid_mem hq)).move gg fun o e => e
    · exact ⟨(old _ (mid_ne H.own.apart q hq)).trans (H.own.out q (mid_mem hq)).1, (H.own.out q (mid_mem hq)).2⟩
  · have := H.own.at_ _ hm
    cases this with
    | @lst vs ds h r => obtain ⟨n, e⟩ := h; exact .lst ⟨_, addTo_new e (by simp), rfl, n, rfl⟩ (r.up gg)
    | @dct kvs ds h r n =>
      obtain ⟨o, es, ep, e, q⟩ := h
      exact .dct ⟨o, es, ep, addTo_new e (by simp), q⟩ (r.up gg) n
    | raw _ _ => cases hd
    | bx _ _ => cases hd

/-! comprehensions -/
@[reducible] noncomputable def compAct (a : Act) (scope : Scope) (cl : List (PySem.Str × Addr)) (C : Addr) (g : Heap) (s : Shared) (box : List Addr) : Act :=
  { A := a.A, n := a.n, env := compEnvC scope cl C a.env, F := a.F, g0 := g, s0 := s, box := box, full := false }

/-- what a comprehension catches: its own names are not among it -/
structure Caught (a : Act) (l : List (PySem.Str × D)) (scope : Scope) (cl : List (PySem.Str × Addr)) (lc : List (PySem.Str × D)) : Prop where
  clo : closureFor scope a.env = pure cl
  sub : ∀ x b, cl.lookup x = some b → a.env.cells.lookup x = some b
  names : ∀ x d, lc.lookup x = some d → l.lookup x = some d ∧ a.env.kindOf x ≠ some .local ∧ (∃ b, cl.lookup x = some b) ∧ ((relabel scope a.env).names.lookup x = some .cell ∨ (relabel scope a.env).names.lookup x = some .free)
  cell : ∀ x ∈ scope.names, x.2 ≠ .cell
  kind : scope.kind = .function
  locals : ∀ x ∈ scope.names, x.2 = .local → scope.names.lookup x.1 = some .local

/-- the conditions of a clause -/
structure Tst (c : Cx) (a : Act) (σ : Sg) (ifs : List Expr) (o : Out (Bool × Own)) : Prop where
  run : ∀ g s, St c a g s σ → wpAny c.M a.A (forIn ifs true fun c r => if r = true then do let ok ← isTrue c a.env (eval c a.env); pure (ForInStep.yield ok) else pure (ForInStep.yield r))
    (fun b s' => ∃ ω, o = .ok (b, ω) ∧ ∃ g', g.StaysIn g' ∧ St c a g' s' ⟨σ.loc, ω⟩) (Er c a g o) s
theorem Tst.then {ifs : List Expr} {b : Bool} {ω : Own} {Q : Bool → Shared → Prop} {E : Value → Shared → Prop} (h : Tst c a σ ifs (.ok (b, ω))) (H : St c a g s σ) (q : ∀ s₁ g₁, g.StaysIn g₁ → St c a g₁ s₁ ⟨σ.loc, ω⟩ → Q b s₁) :
    wpAny c.M a.A (forIn ifs true fun c r => if r = true then do let ok ← isTrue c a.env (eval c a.env); pure (ForInStep.yield ok) else pure (ForInStep.yield r)) Q E s :=
  wpAny_mono (h.run g s H) (fun v s₁ ⟨_, e, g₁, k, H₁⟩ => by cases e; exact q s₁ g₁ k H₁) fun _ _ e => (nomatch e.1)
theorem Tst.nil : Tst c a σ [] (.ok (true, σ.own)) := .mk fun g s H => wpAny_tests_nil ⟨_, rfl, g, fun _ _ e => e, H⟩
theorem Tst.one {e : Expr} {o : Out (Bool × Own)} (h : Tr c a σ e o) : Tst c a σ [e] o := .mk fun g s H => wpAny_tests_one (h.run g s H)

inductive CTurns (c : Cx) (b : Act) (lc : List (PySem.Str × D)) (target : Expr) (ifs : List Expr) (elt : Expr) : Own → List D → Out (List D × Own) → Prop
  | nil {ω : Own} : CTurns c b lc target ifs elt ω [] (.ok ([], ω))
  | skip {ω ω₁ : Own} {d : D} {ds : List D} {l₁ : List (PySem.Str × D)} {o : Out (List D × Own)} : (∀ ζ, As c b ⟨lc, ω ++ ζ⟩ target d ⟨l₁, ω ++ ζ⟩) → (∀ x d, lc.lookup x = some d → l₁.lookup x = some d) →
      (∀ ζ, Tst c b ⟨l₁, ω ++ ζ⟩ ifs (.ok (false, ω₁ ++ ζ))) → CTurns c b lc target ifs elt ω₁ ds o → CTurns c b lc target ifs elt ω (d :: ds) o
  | take {ω ω₁ ω₂ ω₃ : Own} {d e : D} {ds es : List D} {l₁ : List (PySem.Str × D)} : (∀ ζ, As c b ⟨lc, ω ++ ζ⟩ target d ⟨l₁, ω ++ ζ⟩) → (∀ x d, lc.lookup x = some d → l₁.lookup x = some d) →
      (∀ ζ, Tst c b ⟨l₁, ω ++ ζ⟩ ifs (.ok (true, ω₁ ++ ζ))) → (∀ ζ, Ev c b ⟨l₁, ω₁ ++ ζ⟩ elt (.ok (e, ω₂ ++ ζ))) → CTurns c b lc target ifs elt ω₂ ds (.ok (es, ω₃)) → CTurns c b lc target ifs elt ω (d :: ds) (.ok (e :: es, ω₃))
  | later {ω ω₁ ω₂ : Own} {d e : D} {ds : List D} {l₁ : List (PySem.Str × D)} : (∀ ζ, As c b ⟨lc, ω ++ ζ⟩ target d ⟨l₁, ω ++ ζ⟩) → (∀ x d, lc.lookup x = some d → l₁.lookup x = some d) →
      (∀ ζ, Tst c b ⟨l₁, ω ++ ζ⟩ ifs (.ok (true, ω₁ ++ ζ))) → (∀ ζ, Ev c b ⟨l₁, ω₁ ++ ζ⟩ elt (.ok (e, ω₂ ++ ζ))) → CTurns c b lc target ifs elt ω₂ ds .err → CTurns c b lc target ifs elt ω (d :: ds) .err
  | err {ω ω₁ : Own} {d : D} {ds : List D} {l₁ : List (PySem.Str × D)} : (∀ ζ, As c b ⟨lc, ω ++ ζ⟩ target d ⟨l₁, ω ++ ζ⟩) → (∀ x d, lc.lookup x = some d → l₁.lookup x = some d) →
      (∀ ζ, Tst c b ⟨l₁, ω ++ ζ⟩ ifs (.ok (true, ω₁ ++ ζ))) → (∀ ζ, Ev c b ⟨l₁, ω₁ ++ ζ⟩ elt .err) → CTurns c b lc target ifs elt ω (d :: ds) .err

theorem codeAny_compLoop_mine {R : Result → Shared → Prop} {prog : Program} {w : World} {A : Around} {elt target iter : Expr} {ifs : List Expr} {scope : Scope} {pos : Pos} {it acc : Value} {env : Env} (I : Nat → Shared → Prop)
    (turn : ∀ n s, I n s → wpAny (model prog w) A (pyNext it) (fun r s₁ => match r with
      | none => R (.ok .next) s₁
      | some v => wpAny (model prog w) A (letOwnedTupleGo target it v) (fun _ s₁' => wpAny (model prog w) A (assign target env v) (fun _ s₂ =>
          wpAny (model prog w) A (forIn ifs true fun c r => if r = true then do let ok ← isTrue c env (eval c env); pure (ForInStep.yield ok) else pure (ForInStep.yield r)) (fun ok s₃ =>
            if ok = true then wpAny (model prog w) A (eval elt env) (fun x s₄ =>
              wpAny (model prog w) A (call (.builtin "list.append") [acc, x]) (fun _ s₅ => ∃ m, m < n ∧ I m s₅) (notedBy (model prog w) A env fun e s' => R (.error e) s') s₄) (notedBy (model prog w) A env fun e s' => R (.error e) s') s₃
            else ∃ m, m < n ∧ I m s₃) (notedBy (model prog w) A env fun e s' => R (.error e) s') s₂) (notedBy (model prog w) A env fun e s' => R (.error e) s') s₁') (notedBy (model prog w) A env fun e s' => R (.error e) s') s₁) (notedBy (model prog w) A env fun e s' => R (.error e) s') s)
    (n : Nat) (h : I n s) : codeAny (model prog w) A (.compLoop (.ListComp elt [⟨target, iter, ifs, 0⟩] scope pos) 0 it acc env) R s := by
  refine codeAny_loop rfl I (fun n s hI => ?_) n h
  show wpAny _ A ((compTurn (.ListComp elt [⟨target, iter, ifs, 0⟩] scope pos) 0 it acc env).onRaise (fun x => do noteFrame x env; theTreesLotGoes x)) _ _ s
  refine wpAny_noted ?_
  rw [compTurn_list]
  refine wpAny_bind (wpAny_standAt (wpAny_bind (wpAny_mono (turn n s hI) (fun r s₁ h₁ => ?_) fun _ _ h' => h')))
  cases r with
  | none => exact wpAny_pure h₁
  | some v =>
    refine wpAny_bind (wpAny_mono h₁ (fun _ s₁' h₁' => ?_) fun _ _ h' => h')
    refine wpAny_bind (wpAny_mono h₁' (fun _ s₂ h₂ => wpAny_bind (wpAny_mono h₂ (fun ok s₃ h₃ => ?_) fun _ _ h' => h')) fun _ _ h' => h')
    cases ok with
    | false => exact wpAny_pure ⟨rfl, h₃⟩
    | true =>
      exact wpAny_bind (wpAny_bind (wpAny_mono h₃ (fun x s₄ h₄ => wpAny_bind (wpAny_mono h₄ (fun _ s₅ h₅ => wpAny_pure (wpAny_pure ⟨rfl, h₅⟩)) fun _ _ h' => h')) fun _ _ h' => h'))

theorem RdAll.snoc {vs : List Value} {ds : List D} {v : Value} {d : D} (h : RdAll c g vs ds) (h' : Rd c g v d) : RdAll c g (vs ++ [v]) (ds ++ [d]) := h.append (.one h')

/-- the loop of a comprehension -/
theorem comp_loop {R : Result → Shared → Prop} {b : Act} {I Dl : Addr} {S : Nat → Heap → Prop} {elt target iter : Expr} {ifs : List Expr} {scope : Scope} {pos : Pos} {lc : List (PySem.Str × D)} {ds : List D} {ω : Own} {o : Out (List D × Own)} (W : Iter c I g ds S)
    (H : St c b g s ⟨lc, ω ++ [(I, .raw (S 0)), (Dl, .lst [])]⟩) (t : CTurns c b lc target ifs elt ω ds o) (hz : ds.length ≤ 1000)
    (hok : ∀ es ω' g' s', o = .ok (es, ω') → g.StaysIn g' → St c b g' s' ⟨lc, ω' ++ [(Dl, .lst es)]⟩ → R (.ok .next) s')
    (herr : ∀ g' s' x, o = .err → g.StaysIn g' → ErT true c b g' (.err : Out Unit) x s' → R (.error x) s')
    (hI0 : b.s0.heap.get? I = none) : codeAny c.M b.A (.compLoop (.ListComp elt [⟨target, iter, ifs, 0⟩] scope pos) 0 (.ref I) (.ref Dl) b.env) R s := by
  refine codeAny_compLoop_mine (fun n s' => ∃ i ωi gi es oi, n + i = ds.length ∧ es.length ≤ i ∧ CTurns c b lc target ifs elt ωi (ds.drop i) oi ∧ (o = match oi with | .ok (es', ω') => .ok (es ++ es', ω') | .err => .err) ∧ g.StaysIn gi ∧ St c b gi s' ⟨lc, ωi ++ [(I, .raw (S i)), (Dl, .lst es)]⟩) (fun n s' hI' => ?_) ds.length
    ⟨0, ω, g, [], o, by simp, by simp, by simpa using t, by cases o <;> rfl, fun _ _ e => e, H⟩
  obtain ⟨i, ωi, gi, es, oi, hn, hle, ht, hoi, kg, Hi⟩ := hI'
  have sti : S i s'.heap := by
    have := Hi.own.at_ (I, .raw (S i)) (by simp)
    cases this with
    | raw _ h => exact h _ Hi.stays fun _ e => e
  have ks : g.StaysIn s'.heap := fun b o e => Hi.stays b o (kg b o e)
  by_cases hend : i = ds.length
  · subst hend
    rw [List.drop_length] at ht
    cases ht
    refine W.done b.A s' _ _ Hi.ok.hd ks sti fun h' tk' hk => ?_
    refine hok es ωi gi _ (by rw [hoi]; simp) kg ?_
    exact Hi.remove (ω₁ := ωi) (ω₂ := [(Dl, .lst es)]) hk hI0
  · have hlt : i < ds.length := by omega
    have hdrop : ds.drop i = ds[i] :: ds.drop (i + 1) := List.drop_eq_getElem_cons hlt
    rw [hdrop] at ht
    generalize hd : ds[i] = d' at ht
    have hget : ds[i]? = some d' := by rw [List.getElem?_eq_getElem hlt, hd]
    refine W.item b.A i s' d' _ _ Hi.ok.hd hget ks sti fun v h' tk' hv st' hk => ?_
    have H₃ : St c b gi { s' with heap := h', toks := tk' } ⟨lc, ωi ++ [(I, .raw (S (i + 1))), (Dl, .lst es)]⟩ :=
      Hi.replace (ω₁ := ωi) (ω₂ := [(Dl, .lst es)]) hk (.raw (W.there _ _ st') fun h'' k e => W.stay (i + 1) h' h'' st' e fun b o e => k b o (kg b o e))
    refine W.letgo b.A (i + 1) _ target v _ _ st' ?_
    have asg : ∀ {l₁ : List (PySem.Str × D)}, (∀ ζ, As c b ⟨lc, ωi ++ ζ⟩ target d' ⟨l₁, ωi ++ ζ⟩) → ∀ (K : Shared → Prop), (∀ g₄ s₄, gi.StaysIn g₄ → St c b g₄ s₄ ⟨l₁, ωi ++ [(I, .raw (S (i + 1))), (Dl, .lst es)]⟩ → K s₄) →
        wpAny c.M b.A (assign target b.env v) (fun _ s₄ => K s₄) (notedBy c.M b.A b.env fun e s' => R (.error e) s') { s' with heap := h', toks := tk' } := fun hA K hK =>
      wpAny_mono ((hA _).run gi _ v H₃ (hv.up kg)) (fun _ s₄ ⟨g₄, k₄, H₄⟩ => hK g₄ s₄ k₄ H₄) fun _ _ e => e.elim
    have app : ∀ {l₁ : List (PySem.Str × D)} {ω₂ : Own} {x : Value} {e : D} {g₅ : Heap} {s₅ : Shared} {o' : Out (List D × Own)}, (∀ x d, lc.lookup x = some d → l₁.lookup x = some d) → gi.StaysIn g₅ → St c b g₅ s₅ ⟨l₁, ω₂ ++ [(I, .raw (S (i + 1))), (Dl, .lst es)]⟩ → Rd c g₅ x e →
        CTurns c b lc target ifs elt ω₂ (ds.drop (i + 1)) o' → (o = match o' with | .ok (es', ω') => .ok (es ++ e :: es', ω') | .err => .err) →
        wpAny c.M b.A (call (.builtin "list.append") [.ref Dl, x]) (fun _ s₆ => ∃ m, m < n ∧ ∃ i ωi gi es oi, m + i = ds.length ∧ es.length ≤ i ∧ CTurns c b lc target ifs elt ωi (ds.drop i) oi ∧ (o = match oi with | .ok (es', ω') => .ok (es ++ es', ω') | .err => .err) ∧ g.StaysIn gi ∧ St c b gi s₆ ⟨lc, ωi ++ [(I, .raw (S i)), (Dl, .lst es)]⟩)
          (notedBy c.M b.A b.env fun e s' => R (.error e) s') s₅ := by
      intro l₁ ω₂ x e g₅ s₅ o' hl k₅ H₅ hx hT ho'
      have hD := H₅.own.at_ (Dl, .lst es) (by simp)
      · obtain ⟨vs, hp, hr⟩ := hD.inv
        have hlen := hr.length
        refine wpAny_list_append_plain hp (fun h₆ hp₆ hs₆ => ?_) (by rw [sizeLine_eq]; simp only [List.size_toArray]; omega)
        refine ⟨ds.length - (i + 1), by omega, i + 1, ω₂, g₅, es ++ [e], o', by omega, by simp; omega, hT, ?_, fun b o z => k₅ b o (kg b o z), ?_⟩
        · rw [ho']; cases o' <;> simp
        · have H₅' : St c b g₅ s₅ ⟨l₁, (ω₂ ++ [(I, .raw (S (i + 1)))]) ++ (Dl, .lst es) :: []⟩ := by simpa using H₅
          have := H₅'.replace (ω₁ := ω₂ ++ [(I, .raw (S (i + 1)))]) (ω₂ := []) (p := Dl) (d := .lst es) (d' := .lst (es ++ [e])) (k := s₅.toks) (h' := h₆) (by simpa using fun b o hb z => hs₆.extBut b o hb z) (.lst (vs := vs ++ [x]) (by simpa using hp₆) (hr.snoc hx))
          simp only [List.append_assoc, List.singleton_append] at this
          exact this.forgetLoc hl
    cases ht with
    | skip hA hl hT hrest =>
      refine asg hA _ fun g₄ s₄ k₄ H₄ => ?_
      refine (hT _).then H₄ (fun s₅ g₅ k₅ H₅ => ?_)
      exact ⟨ds.length - (i + 1), by omega, i + 1, _, g₅, es, oi, by omega, by omega, hrest, hoi, fun b o z => k₅ b o (k₄ b o (kg b o z)), H₅.forgetLoc hl⟩
    | take hA hl hT hE hrest =>
      refine asg hA _ fun g₄ s₄ k₄ H₄ => ?_
      refine (hT _).then H₄ (fun s₅ g₅ k₅ H₅ => ?_)
      refine (hE _).then H₅ (fun x s₆ g₆ k₆ H₆ r₆ => ?_)
      exact app hl (fun b o z => k₆ b o (k₅ b o (k₄ b o z))) H₆ r₆ hrest hoi
    | later hA hl hT hE hrest =>
      refine asg hA _ fun g₄ s₄ k₄ H₄ => ?_
      refine (hT _).then H₄ (fun s₅ g₅ k₅ H₅ => ?_)
      refine (hE _).then H₅ (fun x s₆ g₆ k₆ H₆ r₆ => ?_)
      exact app hl (fun b o z => k₆ b o (k₅ b o (k₄ b o z))) H₆ r₆ hrest hoi
    | err hA hl hT hE =>
      refine asg hA _ fun g₄ s₄ k₄ H₄ => ?_
      refine (hT _).then H₄ (fun s₅ g₅ k₅ H₅ => ?_)
      refine wpAny_mono ((hE _).run g₅ s₅ H₅) (fun x s₆ h₆ => ?_) fun x s₆ he => ?_
      · obtain ⟨_, _, q, _⟩ := h₆; cases q
      · exact noted_ok he fun s₇ he' => herr g₅ s₇ x hoi (fun b o z => k₅ b o (k₄ b o (kg b o z))) he'.cast
end

section
open PySem PySem.W PySem.Calls PyProof.Rows PySem.SeqAt
variable {c : Cx} {a : Act} {g : Heap} {s : Shared} {σ : Sg}

/-- from the inner activation to the outer, the heap changed at the inner names alone -/
theorem comp_back {scope : Scope} {cl : List (PySem.Str × Addr)} {C : Addr} {g₁ g' : Heap} {s₁ s' : Shared} {ωi : Own} {σ' : Sg} (H₁ : St c a g₁ s₁ σ) (hi : ∀ p ∈ ωi, p ∈ σ.own) (H' : St c (compAct a scope cl C g₁ s₁ (ωi.map (·.1))) g' s' σ') (hC : s₁.heap.get? C = none)
    {h' : Heap} {k : Nat} (hs : Heap.SameBut C s'.heap h') (ω' : Own) (hω : ∀ p ∈ ω', (p ∈ σ.own ∧ p.1 ∉ ωi.map (·.1)) ∨ (p.1 ∈ ωi.map (·.1) ∧ p ∈ σ'.own)) (nd : (ω'.map (·.1)).Nodup) : St c a g' { s' with heap := h', toks := k } ⟨σ.loc, ω'⟩ := by
  have x := H'.mv
  have gC : g'.get? C = none := H'.nl
  have keep : ∀ b o, b ≠ C → s'.heap.get? b = some o → h'.get? b = some o := fun b o hb e => (hs.2 b hb).trans e
  have neC : ∀ {b o}, s₁.heap.get? b = some o → b ≠ C := fun e q => by rw [q, hC] at e; cases e
  have m : Mv a.F (ωi.map (·.1)) g₁ s₁ g' { s' with heap := h', toks := k } := by
    refine ⟨x.gg, fun b o e => keep b o (fun q => by rw [q, gC] at e; cases e) (x.gs b o e), x.old, fun b o e => ?_, fun b o hB hF e => keep b o (neC e) (x.kept b o hB hF e), fun b mm hB hF e => ?_, x.gens, x.os⟩
    · obtain ⟨o', e'⟩ := x.there b o e; exact ⟨o', keep b o' (neC e) e'⟩
    · have hb : b ≠ C := by obtain ⟨o, _, _, e', _⟩ := e; exact neC e'
      exact (x.keptF b mm hB hF e).at' fun o e => keep b o hb e
  refine H₁.back m (fun b hb => ?_) ω' (fun p hp => ?_) nd
  · obtain ⟨p, hp, rfl⟩ := List.mem_map.mp hb; exact ⟨_, hi p hp⟩
  · refine (hω p hp).imp id fun q => ⟨q.1, ?_⟩
    exact (H'.own.at_ p q.2).move (fun _ _ e => e) fun o e => keep _ o (H'.ownL p q.2).1 e

theorem comp_err {α β : Type} {scope : Scope} {cl : List (PySem.Str × Addr)} {C : Addr} {g₁ g' : Heap} {s₁ s' : Shared} {ωi : Own} {x : Value} {tb : Bool} (H₁ : St c a g₁ s₁ σ) (hi : ∀ p ∈ ωi, p ∈ σ.own) (hC : s₁.heap.get? C = none) (kg : g₁.StaysIn g')
    (he : ErT tb c (compAct a scope cl C g₁ s₁ (ωi.map (·.1))) g' (.err : Out α) x s') {h' : Heap} (hs : Heap.SameBut C s'.heap h') : ErT tb c a g₁ (.err : Out β) x { s' with heap := h' } := by
  obtain ⟨_, g'', σ', k, H', fl⟩ := he
  refine ⟨rfl, g'', ⟨σ.loc, []⟩, fun b o e => k b o (kg b o e), comp_back (k := s'.toks) H₁ hi H' hC hs [] (fun p hp => (by cases hp)) (by simp), ?_⟩
  obtain ⟨e', oe, vs', dx, mx, tk', x1, x2, x3, x4, x5, x6, x7, x8, x9, x10, x11⟩ := fl.ex
  obtain ⟨mC, oC, esC, epC, hoC, hdC, _⟩ := H'.ns
  have neC : ∀ {b o vs}, s'.heap.get? b = some o → o.data = .fields vs → b ≠ C := fun e d q => by
    have : s'.heap.get? C = some oC := hoC
    rw [q, this] at e; cases e; rw [d] at hdC; cases hdC
  have keep : ∀ b o, b ≠ C → s'.heap.get? b = some o → h'.get? b = some o := fun b o hb e => (hs.2 b hb).trans e
  refine ⟨e', oe, vs', dx, mx, tk', x1, x2, H₁.s0_new x3, keep _ _ (neC x4 x6) x4, x5, x6, x7, x8.at' fun o e => keep _ o x10.2.2 e, x9, ⟨x10.1, H₁.s0_new x10.2.1, fun q => ?_⟩, ?_⟩
  · obtain ⟨o, e⟩ := H₁.L_there; rw [← q, x10.2.1] at e; cases e
  · rcases x11 with ⟨z, z'⟩ | ⟨T, oT, ts, f', q', t1, t2, t3, t4, t5, t6⟩
    · exact .inl ⟨z, z'⟩
    · exact .inr ⟨T, oT, ts, f', q', t1, H₁.s0_new t2, t3, keep _ _ (neC t4 t5) t4, t5, t6⟩

noncomputable def NsAt (C : Addr) (h : Heap) : Prop := ∃ m, h.Ns C m

/-- the state at the start of a comprehension's loop -/
theorem comp_in {scope : Scope} {cl : List (PySem.Str × Addr)} {lc : List (PySem.Str × D)} {l : List (PySem.Str × D)} {ω ωi : Own} (H : St c a g s ⟨l, ω⟩) (cg : Caught a l scope cl lc) (hi : ∀ p ∈ ωi, p ∈ ω) (hnd : (ωi.map (·.1)).Nodup)
    {I Dl C : Addr} {h₁ : Heap} {k : Nat} {P : Heap → Prop} (keep : ∀ b o, s.heap.get? b = some o → h₁.get? b = some o) (hI : s.heap.get? I = none) (hD : s.heap.get? Dl = none) (hC : s.heap.get? C = none) (n1 : I ≠ Dl) (n2 : I ≠ C) (n3 : Dl ≠ C)
    (hns : ∃ m, h₁.Ns C m) (hraw : OwnAt c g h₁ I (.raw P)) (hacc : OwnAt c g h₁ Dl (.lst [])) :
    St c (compAct a scope cl C g s (ωi.map (·.1))) g { s with heap := h₁, toks := k } ⟨lc, ωi ++ [(I, .raw P), (Dl, .lst [])]⟩ := by
  obtain ⟨fenv, outer, f1, f2, f3⟩ := H.ok.frames
  obtain ⟨lf, hl, hF, hfr⟩ := H.fr
  have neN : ∀ {b o N}, s.heap.get? N = none → s.heap.get? b = some o → b ≠ N := fun hN e q => by rw [q, hN] at e; cases e
  have notF : ∀ N, s.heap.get? N = none → N ∉ a.F := fun N hN hb => by
    rw [hF] at hb
    obtain ⟨env, he, hf⟩ := List.mem_filterMap.mp hb
    obtain ⟨_, L, m, hL, _, oo, _, _, hoo, _⟩ := hfr env he
    rw [hL] at hf; cases hf; rw [hN] at hoo; cases hoo
  have notO : ∀ N, s.heap.get? N = none → N ∉ ωi.map (·.1) := fun N hN hb => by
    obtain ⟨p, hp, e⟩ := List.mem_map.mp hb
    obtain ⟨o, e'⟩ := (H.own.at_ p (hi p hp)).there
    rw [e, hN] at e'; cases e'
  have notC : ∀ N, s.heap.get? N = none → ∀ x, cl.lookup x ≠ some N := fun N hN x hx => by
    obtain ⟨_, _, v, o, e, _⟩ := H.cells x N (cg.sub x N hx)
    rw [hN] at e; cases e
  have bF : ∀ b ∈ ωi.map (·.1), b ∉ a.F ∧ ∃ o, s.heap.get? b = some o := fun b hb => by
    obtain ⟨p, hp, rfl⟩ := List.mem_map.mp hb; exact ⟨(H.own.out p (hi p hp)).2, (H.own.at_ p (hi p hp)).there⟩
  refine ⟨⟨H.ok.hd, H.ok.depth, H.ok.units, cg.kind, H.ok.globals, H.ok.builtins, H.wd, ⟨fenv, outer, f1, f2, f3⟩, H.ok.frame, bF⟩, Mv.same H.stays keep, ⟨lf, hl, hF, fun env he => ?_⟩, hns, H.g_new hC, notO C hC, hC, fun q => (by cases q), ?_, ?_, ?_, ?_, ⟨?_, ?_, ?_⟩, ?_⟩
  · obtain ⟨hk, L, m, hL, hg, hN⟩ := hfr env he
    exact ⟨hk, L, m, hL, hg, hN.keeps keep⟩
  · intro x b hx
    obtain ⟨h1, _, v, o, e, d⟩ := H.cells x b (cg.sub x b hx)
    refine ⟨h1, fun hb => ?_, v, o, keep _ _ e, d⟩
    obtain ⟨p, hp, e'⟩ := List.mem_map.mp hb
    exact (H.ownL p (hi p hp)).2.1 x (e' ▸ cg.sub x b hx)
  · intro x b hx
    refine ⟨(H.cellsF x b (cg.sub x b hx)).1, fun q => ?_⟩
    obtain ⟨_, _, v, o, e, d⟩ := H.cells x b (cg.sub x b hx)
    exact neN hC e q
  · intro x y b hx hy
    exact H.cellsA x y b (cg.sub x b hx) (cg.sub y b hy)
  · intro x d hx
    obtain ⟨h1, h2, ⟨b, hb⟩, h3⟩ := cg.names x d hx
    obtain ⟨v, hn, hr⟩ := H.loc x d h1
    refine ⟨v, ?_, hr⟩
    cases hn with
    | loc k _ _ => exact absurd k h2
    | @cell b' k hc e =>
      rw [cg.sub x b hb] at hc
      cases hc
      obtain ⟨o, e, d⟩ := e
      exact .cell h3 hb ⟨o, keep _ _ e, d⟩
  · intro p hp
    rcases List.mem_append.mp hp with hp | hp
    · exact (H.own.at_ p (hi p hp)).move (fun _ _ e => e) fun o e => keep _ o e
    · simp only [List.mem_cons, List.mem_singleton, List.not_mem_nil, or_false] at hp
      rcases hp with rfl | rfl
      · exact hraw
      · exact hacc
  · intro p hp
    rcases List.mem_append.mp hp with hp | hp
    · exact H.own.out p (hi p hp)
    · simp only [List.mem_cons, List.mem_singleton, List.not_mem_nil, or_false] at hp
      rcases hp with rfl | rfl
      · exact ⟨H.g_new hI, notF _ hI⟩
      · exact ⟨H.g_new hD, notF _ hD⟩
  · rw [List.map_append, List.nodup_append]
    refine ⟨hnd, by simpa using n1, fun x hx y hy => ?_⟩
    simp only [List.map_cons, List.map_nil, List.mem_cons, List.not_mem_nil, or_false] at hy
    rintro rfl
    rcases hy with rfl | rfl
    · exact notO _ hI hx
    · exact notO _ hD hx
  · intro p hp
    rcases List.mem_append.mp hp with hp | hp
    · refine ⟨?_, fun x hx => (H.ownL p (hi p hp)).2.1 x (cg.sub x _ hx), .inl (List.mem_map.mpr ⟨p, hp, rfl⟩)⟩
      obtain ⟨o, e⟩ := (H.own.at_ p (hi p hp)).there
      exact neN hC e
    · simp only [List.mem_cons, List.mem_singleton, List.not_mem_nil, or_false] at hp
      rcases hp with rfl | rfl
      · exact ⟨n2, notC _ hI, .inr hI⟩
      · exact ⟨n3, notC _ hD, .inr hD⟩

/-- what a comprehension gives -/
noncomputable def compOut (o : Out (List D × Own)) (ω' : Own) : Out (D × Own) := match o with
  | .ok (es, _) => .ok (.lst es, ω')
  | .err => .err

theorem comp_all {elt target iter : Expr} {ifs : List Expr} {scope : Scope} {pos : Pos} {cl : List (PySem.Str × Addr)} {lc : List (PySem.Str × D)} {d : D} {ds : List D} {ω ωi ω' : Own} {o : Out (List D × Own)} {use : Option (Value → Sem Unit)} {Q : Value → Shared → Prop} {E : Value → Shared → Prop} {fpos : Pos}
    (h : Ev c a σ iter (.ok (d, ω))) (hit : Iterable c d ds) (cg : Caught a σ.loc scope cl lc) (hi : ∀ p ∈ ωi, p ∈ ω) (hnd : (ωi.map (·.1)).Nodup) (hz : ds.length ≤ 1000)
    (t : ∀ C g0 s0, CTurns c (compAct a scope cl C g0 s0 (ωi.map (·.1))) lc target ifs elt ωi ds o)
    (hω : ∀ p ∈ ω', (p ∈ ω ∧ p.1 ∉ ωi.map (·.1)) ∨ (p.1 ∈ ωi.map (·.1) ∧ ∀ es ωo, o = .ok (es, ωo) → p ∈ ωo)) (nd : (ω'.map (·.1)).Nodup) (H : St c a g s σ)
    (hQ : ∀ C Dl g'' s'' es ωo, o = .ok (es, ωo) → g.StaysIn g'' → a.s0.heap.get? C = none → St c a g'' s'' ⟨σ.loc, (C, .raw (NsAt C)) :: ω'⟩ → Rd c g'' (.ref Dl) (.lst es) → compPost c.M a.A E use Q (.ref Dl) C (.ok .next) s'')
    (hE : ∀ x s'', o = .err → Er c a g (.err : Out Unit) x s'' → E x s'')
    (hs : ∀ x, foldedSetIterable iter a.env x = pure x := by intro _; rfl) :
    wpAny c.M a.A (comprehension (.ListComp elt [⟨target, iter, ifs, 0⟩] scope pos) scope a.env fpos (newList []) false (eval iter a.env) use) Q E s := by
  refine wpAny_comprehension_free (cl := cl) rfl hs cg.clo cg.kind cg.locals (h.then H (fun v s₁ g₁ k₁ H₁ r₁ => ?_))
  refine hit.run a g₁ s₁ _ v _ _ H₁ r₁ fun ob S tk hfr W st => ?_
  generalize hI : s₁.heap.objs.size = I at W st ⊢
  refine wpAny_newObj_type (hd := by size_fits) (wpAny_newFunctionEnv cg.cell (by intro y hy; simp at hy) (fun h₁ hns₁ hsb₁ => ?_) cg.kind)
  dsimp only at hns₁ hsb₁ ⊢
  generalize hH1 : s₁.heap.push ob = H1 at hns₁ hsb₁ st ⊢
  have hD : H1.objs.size = I + 1 := by rw [← hH1, Heap.size_push, hI]
  generalize hH2 : H1.push { cls := .type "list", dict := none, data := .seq ([] : List Value).toArray } = H2 at hns₁ hsb₁ ⊢
  have hC : H2.objs.size = I + 2 := by rw [← hH2, Heap.size_push, hD]
  generalize hDn : H1.objs.size = Dl at hD ⊢
  generalize hCn : H2.objs.size = C at hC hns₁ hsb₁ ⊢
  have lt1 : ∀ b o, s₁.heap.get? b = some o → b < I := fun b o e => hI ▸ Heap.lt_size e
  have none_of : ∀ b, I ≤ b → s₁.heap.get? b = none := fun b hb => by
    cases q : s₁.heap.get? b with
    | none => rfl
    | some o => exact absurd (lt1 b o q) (Nat.not_lt.mpr hb)
  have n1 : I ≠ Dl := by rw [hD]; exact Nat.ne_of_lt (Nat.lt_succ_self _)
  have n2 : I ≠ C := by rw [hC]; exact Nat.ne_of_lt (Nat.lt_add_of_pos_right (by decide))
  have n3 : Dl ≠ C := by rw [hD, hC]; exact Nat.ne_of_lt (Nat.lt_succ_self _)
  have up1 : ∀ b o, s₁.heap.get? b = some o → H1.get? b = some o := fun b o e => hH1 ▸ Heap.get?_push_of_some _ e
  have up2 : ∀ b o, H1.get? b = some o → H2.get? b = some o := fun b o e => hH2 ▸ Heap.get?_push_of_some _ e
  have up3 : ∀ b o, b ≠ C → H2.get? b = some o → h₁.get? b = some o := fun b o hb e => hsb₁.extBut b o hb (Heap.get?_push_of_some _ e)
  have cI : s₁.heap.get? I = none := none_of I (Nat.le_refl _)
  have cD : s₁.heap.get? Dl = none := none_of _ (by rw [hD]; exact Nat.le_succ _)
  have cC : s₁.heap.get? C = none := none_of _ (by rw [hC]; exact Nat.le_add_right _ _)
  have keep : ∀ b o, s₁.heap.get? b = some o → h₁.get? b = some o := fun b o e => up3 b o (fun q => by rw [q, cC] at e; cases e) (up2 b o (up1 b o e))
  have kI : ∀ o, H1.get? I = some o → h₁.get? I = some o := fun o e => up3 I o n2 (up2 I o e)
  have gs : g₁.StaysIn h₁ := fun b o e => keep b o (H₁.stays b o e)
  have st1 : S 0 h₁ := W.stay 0 H1 h₁ st kI gs
  have raw : OwnAt c g₁ h₁ I (.raw (S 0)) := .raw (W.there 0 h₁ st1) fun h'' k e => W.stay 0 h₁ h'' st1 e k
  have acc : OwnAt c g₁ h₁ Dl (.lst []) := .lst (vs := []) ⟨0, up3 Dl _ n3 (by rw [← hH2, ← hDn]; exact Heap.get?_push_size _ rfl)⟩ .nil
  have Hin := comp_in (scope := scope) (cl := cl) (lc := lc) (k := tk + ([] : List (PySem.Str × Value)).length) H₁ cg hi hnd keep cI cD cC n1 n2 n3 ⟨_, hns₁⟩ raw acc
  have loop : codeAny c.M a.A (.compLoop (.ListComp elt [⟨target, iter, ifs, 0⟩] scope pos) 0 (.ref I) (.ref Dl) (compEnvC scope cl C a.env)) (compPost c.M a.A E use Q (.ref Dl) C) { s₁ with heap := h₁, toks := tk + ([] : List (PySem.Str × Value)).length } := by
    refine comp_loop (b := compAct a scope cl C g₁ s₁ (ωi.map (·.1))) (o := o) W Hin (t C g₁ s₁) hz (fun es ωo g' s' q k' H' => ?_) (fun g' s' x q k' he => ?_) cI
    · have hb := comp_back (k := s'.toks) H₁ hi H' cC (Heap.SameBut.refl ..) ω' (fun p hp => (hω p hp).imp id fun z => ⟨z.1, List.mem_append_left _ (z.2 es ωo q)⟩) nd
      have there : ∀ q ∈ ω', ∃ o, s₁.heap.get? q.1 = some o := fun q hq => by
        rcases hω q hq with ⟨h1, _⟩ | ⟨h1, _⟩
        · exact (H₁.own.at_ q h1).there
        · obtain ⟨p, hp, e⟩ := List.mem_map.mp h1; rw [← e]; exact (H₁.own.at_ p (hi p hp)).there
      have neN : ∀ N, s₁.heap.get? N = none → ∀ q ∈ ω', q.1 ≠ N := fun N hN q hq e => by obtain ⟨o, e'⟩ := there q hq; rw [e, hN] at e'; cases e'
      have hm : (Dl, D.lst es) ∈ ωo ++ [(Dl, .lst es)] := by simp
      have h2 := H₁.adopt hb (p := Dl) (d := .lst es) cD (H'.own.out _ hm).1 ((H'.own.at_ _ hm).move (fun _ _ e => e) fun _ e => e) (neN Dl cD)
      have h2' : St c a g' { s' with heap := s'.heap, toks := s'.toks } ⟨σ.loc, [] ++ (Dl, .lst es) :: ω'⟩ := h2
      obtain ⟨g'', k'', h3, hr, hold⟩ := h2'.freeze (fun hb => by
        obtain ⟨o, e⟩ := (H₁.ok.box Dl hb).2
        rw [H₁.s0_new cD] at e; cases e) .lst
      have gC : g''.get? C = none := (hold C (Ne.symm n3)).trans H'.nl
      have h4 := H₁.adopt h3 (p := C) (d := .raw (NsAt C)) cC gC (.raw (let ⟨m, o, _, _, e, _⟩ := H'.ns; ⟨o, e⟩) fun h'' _ e => let ⟨m, hm⟩ := H'.ns; ⟨m, hm.at' e⟩) (fun q hq => neN C cC q hq)
      exact hQ C Dl g'' s' es ωo q (fun b o e => k'' b o (k' b o (k₁ b o e))) (H₁.s0_new cC) h4 hr
    · subst q
      have he' : ∃ m, s'.heap.Ns C m := let ⟨_, g'', σ', k, H', fl⟩ := he; H'.ns
      obtain ⟨m, hn⟩ := he'
      have fin : ∀ h', Heap.SameBut C s'.heap h' → ∀ cenv : Env, cenv.locals = C → wpAny c.M a.A (PySem.passOn "comprehension.variables-let-go" x cenv : Sem Value) (fun _ _ => False) E { s' with heap := h' } := fun h' hs' cenv _ =>
        passOn_ok (comp_err (β := Unit) H₁ hi cC k' he hs') fun s'' he'' => hE x s'' rfl (ErT.up k₁ he''.any)
      cases use <;> exact ⟨m, hn, fin⟩
  exact codeAny_compStart_list loop (W.self a.A 0 _ _ _ H₁.ok.hd gs st1 loop)
end

section
open PySem PySem.W PySem.Calls PyProof.Rows PySem.SeqAt
variable {c : Cx} {a : Act} {g : Heap} {s : Shared} {σ : Sg}

theorem Ev.comp {elt target iter : Expr} {ifs : List Expr} {scope : Scope} {pos : Pos} {cl : List (PySem.Str × Addr)} {lc : List (PySem.Str × D)} {d : D} {ds : List D} {ω ωi ω' : Own} {o : Out (List D × Own)}
    (h : Ev c a σ iter (.ok (d, ω))) (hit : Iterable c d ds) (cg : Caught a σ.loc scope cl lc) (hi : ∀ p ∈ ωi, p ∈ ω) (hnd : (ωi.map (·.1)).Nodup) (hz : ds.length ≤ 1000)
    (t : ∀ C g0 s0, CTurns c (compAct a scope cl C g0 s0 (ωi.map (·.1))) lc target ifs elt ωi ds o)
    (hω : ∀ p ∈ ω', (p ∈ ω ∧ p.1 ∉ ωi.map (·.1)) ∨ (p.1 ∈ ωi.map (·.1) ∧ ∀ es ωo, o = .ok (es, ωo) → p ∈ ωo)) (nd : (ω'.map (·.1)).Nodup)
    (hs : ∀ x, foldedSetIterable iter a.env x = pure x := by intro _; rfl) : Ev c a σ (.ListComp elt [⟨target, iter, ifs, 0⟩] scope pos) (compOut o ω') := .mk fun g s H => by
  rw [eval_ListComp]
  refine comp_all (use := Option.none) h hit cg hi hnd hz t hω nd H (fun C Dl g'' s'' es ωo q k hC H' hr => ?_) (fun x s'' q he => ?_) hs
  · subst q
    obtain ⟨m, hm⟩ : NsAt C s''.heap := by
      have := H'.own.at_ (C, .raw (NsAt C)) (.head _)
      cases this with
      | raw _ h => exact h _ H'.stays fun _ e => e
    refine ⟨m, hm, fun h' hs' => ⟨_, _, rfl, g'', k, ?_, hr⟩⟩
    exact H'.remove (ω₁ := []) (k := s''.toks) (fun b o hb e => hs'.extBut b o hb e) hC
  · subst q; exact ErT.cast he

theorem Ex.assignComp {x : PySem.Str} {pos' : Pos} {elt target iter : Expr} {ifs : List Expr} {scope : Scope} {pos spos : Pos} {cl : List (PySem.Str × Addr)} {lc : List (PySem.Str × D)} {d : D} {ds : List D} {ω ωi ω' : Own} {o : Out (List D × Own)}
    (h : Ev c a σ iter (.ok (d, ω))) (hit : Iterable c d ds) (cg : Caught a σ.loc scope cl lc) (hi : ∀ p ∈ ωi, p ∈ ω) (hnd : (ωi.map (·.1)).Nodup) (hz : ds.length ≤ 1000)
    (t : ∀ C g0 s0, CTurns c (compAct a scope cl C g0 s0 (ωi.map (·.1))) lc target ifs elt ωi ds o)
    (hω : ∀ p ∈ ω', (p ∈ ω ∧ p.1 ∉ ωi.map (·.1)) ∨ (p.1 ∈ ωi.map (·.1) ∧ ∀ es ωo, o = .ok (es, ωo) → p ∈ ωo)) (nd : (ω'.map (·.1)).Nodup) (hx : Stores a x)
    (hsw : swapsWith (.ListComp elt [⟨target, iter, ifs, 0⟩] scope pos) (some (.Name x pos')) spos.line a.env = pure true := by rfl)
    (hs : ∀ x, foldedSetIterable iter a.env x = pure x := by intro _; rfl) : Ex c a σ (.Assign [.Name x pos'] (.ListComp elt [⟨target, iter, ifs, 0⟩] scope pos) spos) (match o with | .ok (es, _) => .ok (.next ⟨(x, .lst es) :: σ.loc, ω'⟩) | .err => .err) := .mk fun g s H => by
  rw [exec_Assign_Name_used _ _ _ _ hsw]
  refine wpAny_bind (wpAny_standAt (wpAny_bind ?_))
  show wpAny c.M a.A (do let _ ← comprehension (.ListComp elt [⟨target, iter, ifs, 0⟩] scope pos) scope a.env (firstIterPos [⟨target, iter, ifs, 0⟩] pos) (newList []) (firstAsync [⟨target, iter, ifs, 0⟩]) (firstIter [⟨target, iter, ifs, 0⟩] a.env) (some (PySem.assign (.Name x pos') a.env))) _ _ s
  refine wpAny_bind ?_
  refine comp_all (use := some (PySem.assign (.Name x pos') a.env)) h hit cg hi hnd hz t hω nd H (fun C Dl g'' s'' es ωo q k hC H' hr => ?_) (fun x s'' q he => ?_) hs
  · subst q
    refine wpAny_assign_Name (store_ok H' hr hx fun s₃ H₃ => ?_)
    obtain ⟨m, hm⟩ : NsAt C s₃.heap := by
      have := H₃.own.at_ (C, .raw (NsAt C)) (.head _)
      cases this with
      | raw _ h => exact h _ H₃.stays fun _ e => e
    refine ⟨m, hm, fun h' hs' => wpAny_pure (wpAny_pure ⟨_, rfl, g'', k, ?_⟩)⟩
    exact H₃.remove (ω₁ := []) (k := s₃.toks) (fun b o hb e => hs'.extBut b o hb e) hC
  · subst q; exact ErT.cast he

/-! new owned things -/
structure EvN (c : Cx) (a : Act) (σ : Sg) (e : Expr) (dd : Addr → D) (d0 : D) : Prop where
  run : ∀ g s, St c a g s σ → wpAny c.M a.A (eval e a.env) (fun v s' => ∃ p g', g.StaysIn g' ∧ St c a g' s' ⟨σ.loc, (p, d0) :: σ.own⟩ ∧ Rd c g' v (dd p)) (fun _ _ => False) s
theorem EvN.list {es : List Expr} {pos : Pos} {ds : List D} (h : EvAll c a σ pos es (.ok (ds, σ.own))) (hz : ds.length ≤ 1000 := by decide) : EvN c a σ (.List es pos) .adr (.lst ds) := .mk fun g s H => by
  refine List_ (h.then H (fun vs s₁ g₁ k₁ H₁ r₁ => ?_))
  unfold newList
  refine wpAny_newObj_type ?_ (by show vs.toArray.size ≤ sizeLine; rw [sizeLine_eq]; simp only [List.size_toArray]; rw [r₁.length]; omega)
  exact ⟨_, g₁, k₁, H₁.newOwn (.lst (vs := vs) ⟨0, Heap.get?_push_size _ rfl⟩ r₁) rfl, .adr _⟩
theorem EvN.box {es : List Expr} {pos : Pos} {ds : List D} (h : EvAll c a σ pos es (.ok (ds, σ.own))) (hz : ds.length ≤ 1000 := by decide) : EvN c a σ (.List es pos) .adr (.bx ds) := .mk fun g s H => by
  refine List_ (h.then H (fun vs s₁ g₁ k₁ H₁ r₁ => ?_))
  unfold newList
  refine wpAny_newObj_type ?_ (by show vs.toArray.size ≤ sizeLine; rw [sizeLine_eq]; simp only [List.size_toArray]; rw [r₁.length]; omega)
  exact ⟨_, g₁, k₁, H₁.newOwn (.bx (vs := vs) ⟨_, Heap.get?_push_size _ rfl, rfl, 0, rfl⟩ r₁) rfl, .adr _⟩
theorem EvN.dict {pos : Pos} : EvN c a σ (.Dict [] [] pos) .adr (.dct []) := .mk fun g s H => by
  refine wpAny_Dict_empty ⟨_, g, fun _ _ e => e, H.newOwn (k := s.toks) (.dct (Heap.DictOf.new s.heap) .nil ?_) rfl, .adr _⟩
  have := H.stays
  cases q : (s.heap.objs.size == sysModules) with
  | false => rfl
  | true =>
    have e := eq_of_beq q
    obtain ⟨b, o, hb, ho⟩ := c.mods H.wd
    have h1 := Heap.lt_size (H.stays _ _ ho)
    rw [e] at h1
    exact absurd h1 (Nat.not_lt.mpr (Nat.le_of_lt hb))
structure EvAllN (c : Cx) (a : Act) (σ : Sg) (pos : Pos) (es : List Expr) (dds : Addr → List D) (d0 : D) : Prop where
  run : ∀ g s, St c a g s σ → wpAny c.M a.A (spliced (backTo pos (starEach es a.env))) (fun vs s' => ∃ p g', g.StaysIn g' ∧ St c a g' s' ⟨σ.loc, (p, d0) :: σ.own⟩ ∧ RdAll c g' vs (dds p)) (fun _ _ => False) s
theorem EvAllN.here {pos : Pos} {e : Expr} {es : List Expr} {dd : Addr → D} {d0 : D} {ds : List D} (h : EvN c a σ e dd d0) (h2 : ∀ p, EvAll c a ⟨σ.loc, (p, d0) :: σ.own⟩ pos es (.ok (ds, (p, d0) :: σ.own)))
    (hs : ∀ es, starEach (e :: es) a.env = (false, eval e a.env) :: starEach es a.env := by intro _; rfl) : EvAllN c a σ pos (e :: es) (fun p => dd p :: ds) d0 := .mk fun g s H => by
  rw [hs]
  refine spliced_cons (wpAny_mono (h.run g s H) (fun v s₁ ⟨p, g₁, k₁, H₁, r₁⟩ => ?_) fun _ _ e => e)
  refine (h2 p).then H₁ (fun vs s₂ g₂ k₂ H₂ r₂ => ?_)
  exact ⟨p, g₂, fun b o e => k₂ b o (k₁ b o e), H₂, .cons (r₁.up k₂) r₂⟩
theorem EvAllN.there {pos : Pos} {e : Expr} {es : List Expr} {dds : Addr → List D} {d0 d : D} (h : Ev c a σ e (.ok (d, σ.own))) (h2 : EvAllN c a σ pos es dds d0)
    (hs : ∀ es, starEach (e :: es) a.env = (false, eval e a.env) :: starEach es a.env := by intro _; rfl) : EvAllN c a σ pos (e :: es) (fun p => d :: dds p) d0 := .mk fun g s H => by
  rw [hs]
  refine spliced_cons (h.then H (fun v s₁ g₁ k₁ H₁ r₁ => ?_))
  refine wpAny_mono (h2.run g₁ s₁ H₁) (fun vs s₂ ⟨p, g₂, k₂, H₂, r₂⟩ => ?_) fun _ _ e => e
  exact ⟨p, g₂, fun b o e => k₂ b o (k₁ b o e), H₂, .cons (r₁.up k₂) r₂⟩
theorem EvN.tuple {es : List Expr} {k : Nat} {pos : Pos} {dds : Addr → List D} {d0 : D} (h : EvAllN c a σ pos es dds d0) (hz : ∀ p, (dds p).length ≤ 1000 := by intro _; decide) : EvN c a σ (.Tuple es k pos) (fun p => .tup (dds p)) d0 := .mk fun g s H => by
  refine Tuple_ (wpAny_mono (h.run g s H) (fun vs s₁ ⟨p, g₁, k₁, H₁, r₁⟩ => ?_) fun _ _ e => e)
  have hz' := hz p
  unfold newTuple
  refine wpAny_newObj_type ?_ (by show vs.toArray.size ≤ sizeLine; rw [sizeLine_eq]; simp only [List.size_toArray]; rw [r₁.length]; omega)
  obtain ⟨m, e⟩ := mv_new (F := a.F) (o := { cls := .type "tuple", data := .seq vs.toArray }) H₁.stays rfl
  exact ⟨p, _, fun b o e => m.gg b o (k₁ b o e), H₁.move m, .tup ⟨_, e, rfl, 0, rfl⟩ (r₁.up m.gg)⟩

theorem Exs.assignN {x : PySem.Str} {pos' pos : Pos} {e : Expr} {dd : Addr → D} {d0 : D} {rest : List Stmt} {o : Out Fin} (h : EvN c a σ e dd d0) (hx : Stores a x) (h2 : ∀ p, Exs c a ⟨(x, dd p) :: σ.loc, (p, d0) :: σ.own⟩ rest o)
    (hs : swapsWith e (some (.Name x pos')) pos.line a.env = pure false := by rfl) : Exs c a σ (.Assign [.Name x pos'] e pos :: rest) o := .mk fun g s H => by
  refine wpAny_execs_cons (wpAny_Assign_Name (wpAny_mono (h.run g s H) (fun v s₁ ⟨p, g₁, k₁, H₁, r₁⟩ => ?_) fun _ _ e => e.elim) hs)
  refine store_ok H₁ r₁ hx fun s' H' => ?_
  exact wpAny_mono ((h2 p).run g₁ s' H') (fun f s₂ h => h.up k₁) fun _ _ e => Er.up k₁ e

/-! stores to names in a row -/
theorem RdAll.rev {vs : List Value} {ds : List D} (h : RdAll c g vs ds) : RdAll c g vs.reverse ds.reverse := by
  induction ds generalizing vs with
  | nil => cases h; exact .nil
  | cons d ds ih => cases h with | cons h r => simpa using (ih r).snoc h
/-- the stores of a tuple's items -/
noncomputable def Puts (c : Cx) (a : Act) (σ : Sg) (elts : List Expr) (k : Nat) (p : Pos) (value : Expr) (ds : List D) (σ' : Sg) : Prop :=
  (swappedStores [.Tuple elts k p] value a.env = pure none ∧ As c a σ (.Tuple elts k p) (.tup ds) σ') ∨
  ∃ names, swappedStores [.Tuple elts k p] value a.env = pure (some names) ∧ names.length = ds.length ∧ AsAll c a σ (names.reverse.map fun n => bindName a.env n) ds.reverse σ'
theorem puts_ok {elts : List Expr} {k : Nat} {p pos : Pos} {value : Expr} {ds : List D} {Q : Flow → Shared → Prop} {E : Value → Shared → Prop} (hw : swapsWithSole [.Tuple elts k p] value pos.line a.env = pure false)
    (h : wpAny c.M a.A (eval value a.env) (fun v s₁ => ∃ ds σ₁ σ' g₁, St c a g₁ s₁ σ₁ ∧ Rd c g₁ v (.tup ds) ∧ Puts c a σ₁ elts k p value ds σ' ∧ ∀ g₂ s₂, g₁.StaysIn g₂ → St c a g₂ s₂ σ' → Q .next s₂) E s) :
    wpAny c.M a.A (exec (.Assign [.Tuple elts k p] value pos) a.env) Q E s := by
  have split : (swappedStores [.Tuple elts k p] value a.env = pure none) ∨ ∃ names, swappedStores [.Tuple elts k p] value a.env = pure (some names) ∨ True := .inr ⟨[], .inr trivial⟩
  by_cases hc : swappedStores [.Tuple elts k p] value a.env = pure none
  · refine Assign_Tuple (wpAny_mono h (fun v s₁ ⟨ds, σ₁, σ', g₁, H₁, r₁, hp, hq⟩ => ?_) fun _ _ e => e) hw hc
    rcases hp with ⟨_, hA⟩ | ⟨names, hn, _⟩
    · exact wpAny_mono (hA.run g₁ s₁ v H₁ r₁) (fun _ s₂ ⟨g₂, k₂, H₂⟩ => hq g₂ s₂ k₂ H₂) fun _ _ e => e.elim
    · rw [hc] at hn; cases hn
  · by_cases hc2 : ∃ names, swappedStores [.Tuple elts k p] value a.env = pure (some names)
    · obtain ⟨names, hn⟩ := hc2
      refine Assign_Tuple_swapped (names := names) (wpAny_mono h (fun v s₁ ⟨ds, σ₁, σ', g₁, H₁, r₁, hp, hq⟩ => ?_) fun _ _ e => e) hw hn
      rcases hp with ⟨hq', _⟩ | ⟨names', hn', hl, hA⟩
      · exact absurd hq' hc
      · rw [hn] at hn'; cases hn'
        · obtain ⟨ax, vs, rfl, ht, r⟩ := r₁.inv
          have e1 : names.length = vs.toArray.size := by rw [hl]; simp [r.length]
          rw [e1]
          refine wpAny_unpackItems_tuple H₁.ok.hd (isTuple_up H₁.stays ht) fun h' hs => ?_
          have m : Mv a.F [] g₁ s₁ g₁ { s₁ with heap := h' } := extBut_new (h := s₁.heap) hs H₁.stays
          exact wpAny_mono (hA.run g₁ _ _ (H₁.move m) r.rev) (fun _ s₂ ⟨g₂, k₂, H₂⟩ => hq g₂ s₂ k₂ H₂) fun _ _ e => e.elim
    · rw [exec_Assign]
      refine wpAny_bind (wpAny_standAt ?_)
      rw [hw]
      refine wpAny_bind (wpAny_pure ?_)
      rw [if_neg (by decide)]
      refine wpAny_bind (wpAny_mono h (fun v s₁ ⟨ds, σ₁, σ', g₁, H₁, r₁, hp, hq⟩ => ?_) fun _ _ e => e)
      rcases hp with ⟨hq', _⟩ | ⟨names', hn', _⟩
      · exact absurd hq' hc
      · exact absurd ⟨names', hn'⟩ hc2
theorem Ex.assignTup {elts : List Expr} {k : Nat} {p pos : Pos} {value : Expr} {ds : List D} {ω : Own} {σ' : Sg} (h : Ev c a σ value (.ok (.tup ds, ω))) (hp : Puts c a ⟨σ.loc, ω⟩ elts k p value ds σ') (hw : swapsWithSole [.Tuple elts k p] value pos.line a.env = pure false := by rfl) :
    Ex c a σ (.Assign [.Tuple elts k p] value pos) (.ok (.next σ')) := .mk fun g s H => puts_ok (ds := ds) hw (wpAny_mono (h.run g s H) (fun v s₁ h => by
  obtain ⟨_, _, e, g₁, k₁, H₁, r₁⟩ := h
  cases e
  exact ⟨ds, _, σ', g₁, H₁, r₁, hp, fun g₂ s₂ k₂ H₂ => ⟨_, rfl, g₂, fun b o e => k₂ b o (k₁ b o e), H₂⟩⟩) fun _ _ e => (nomatch e.1))
theorem Exs.assignTupN {elts : List Expr} {k : Nat} {p pos : Pos} {value : Expr} {dds : Addr → List D} {d0 : D} {σ' : Addr → Sg} {rest : List Stmt} {o : Out Fin} (h : EvN c a σ value (fun p => .tup (dds p)) d0)
    (hp : ∀ q, Puts c a ⟨σ.loc, (q, d0) :: σ.own⟩ elts k p value (dds q) (σ' q)) (h2 : ∀ q, Exs c a (σ' q) rest o) (hw : swapsWithSole [.Tuple elts k p] value pos.line a.env = pure false := by rfl) :
    Exs c a σ (.Assign [.Tuple elts k p] value pos :: rest) o := .mk fun g s H => wpAny_execs_cons (puts_ok (ds := []) hw (wpAny_mono (h.run g s H) (fun v s₁ ⟨q, g₁, k₁, H₁, r₁⟩ =>
  ⟨dds q, _, σ' q, g₁, H₁, r₁, hp q, fun g₂ s₂ k₂ H₂ => wpAny_mono ((h2 q).run g₂ s₂ H₂) (fun f s₂ h => h.up fun b o e => k₂ b o (k₁ b o e)) fun _ _ e => Er.up (fun b o e => k₂ b o (k₁ b o e)) e⟩) fun _ _ e => e.elim))
end

section
open PySem PySem.W PySem.Calls PyProof.Rows PySem.SeqAt
variable {c : Cx} {a : Act} {g : Heap} {s : Shared} {σ : Sg}

/-! owned things by address -/
noncomputable def setOwn : Own → Addr → D → Own
  | [], _, _ => []
  | (q, e) :: r, p, d => if q = p then (p, d) :: r else (q, e) :: setOwn r p d
noncomputable def delOwn : Own → Addr → Own
  | [], _ => []
  | (q, e) :: r, p => if q = p then r else (q, e) :: delOwn r p
theorem own_split {p : Addr} {d0 : D} : ∀ {ω : Own}, ω.lookup p = some d0 → ∃ ω₁ ω₂, ω = ω₁ ++ (p, d0) :: ω₂ ∧ (∀ d, setOwn ω p d = ω₁ ++ (p, d) :: ω₂) ∧ delOwn ω p = ω₁ ++ ω₂
  | [], h => by cases h
  | (q, e) :: r, h => by
    rw [List.lookup_cons] at h
    cases hq : p == q with
    | true =>
      rw [hq] at h; cases h
      have := eq_of_beq hq; subst this
      exact ⟨[], r, rfl, fun d => by simp [setOwn], by simp [delOwn]⟩
    | false =>
      rw [hq] at h
      have hne : ¬ q = p := fun z => by subst z; simp at hq
      obtain ⟨ω₁, ω₂, h1, h2, h3⟩ := own_split h
      exact ⟨(q, e) :: ω₁, ω₂, by rw [h1]; rfl, fun d => by simp [setOwn, hne, h2 d], by simp [delOwn, hne, h3]⟩
theorem St.set (H : St c a g s σ) {p : Addr} {d0 d : D} (h : σ.own.lookup p = some d0) {h' : Heap} {k : Nat} (hk : ∀ b o, b ≠ p → s.heap.get? b = some o → h'.get? b = some o) (ho : OwnAt c g h' p d) :
    St c a g { s with heap := h', toks := k } ⟨σ.loc, setOwn σ.own p d⟩ := by
  obtain ⟨ω₁, ω₂, e, e2, _⟩ := own_split h
  rw [e2]
  obtain ⟨l, ω⟩ := σ
  dsimp only at e ⊢
  subst e
  exact H.replace hk ho
theorem St.freezeAt (H : St c a g s σ) {p : Addr} {d : D} (h : σ.own.lookup p = some d) (hb : p ∉ a.box) (hd : Freezes d) : ∃ g', g.StaysIn g' ∧ St c a g' s ⟨σ.loc, delOwn σ.own p⟩ ∧ Rd c g' (.ref p) d := by
  obtain ⟨ω₁, ω₂, e, _, e2⟩ := own_split h
  rw [e2]
  obtain ⟨l, ω⟩ := σ
  dsimp only at e ⊢
  subst e
  obtain ⟨g', k, H', r, _⟩ := H.freeze hb hd
  exact ⟨g', k, H', r⟩
theorem Ex.retFreeze {e : Expr} {pos : Pos} {p : Addr} {d : D} {ω : Own} (h : Ev c a σ e (.ok (.adr p, ω))) (hp : ω.lookup p = some d) (hb : p ∉ a.box) (hd : Freezes d) : Ex c a σ (.Return (some e) pos) (.ok (.ret d (delOwn ω p))) := .mk fun g s H => by
  refine wpAny_Return_some (h.then H (fun v s₁ g₁ k₁ H₁ r₁ => ?_))
  obtain rfl := r₁.inv
  obtain ⟨g₂, k₂, H₂, r₂⟩ := H₁.freezeAt hp hb hd
  exact ⟨_, _, rfl, g₂, _, fun b o e => k₂ b o (k₁ b o e), H₂, r₂⟩
theorem Exs.freeze {x : PySem.Str} {p : Addr} {d : D} {rest : List Stmt} {o : Out Fin} (hx : σ.loc.lookup x = some (.adr p)) (hp : σ.own.lookup p = some d) (hb : p ∉ a.box) (hd : Freezes d) (h : Exs c a ⟨(x, d) :: σ.loc, delOwn σ.own p⟩ rest o) : Exs c a σ rest o := .mk fun g s H => by
  obtain ⟨g₂, k₂, H₂, r₂⟩ := H.freezeAt hp hb hd
  have H₃ : St c a g₂ s ⟨(x, d) :: σ.loc, delOwn σ.own p⟩ :=
    ⟨H₂.ok, H₂.mv, H₂.fr, H₂.ns, H₂.nl, H₂.nb, H₂.newL, H₂.newC, H₂.cells, H₂.cellsF, H₂.cellsA, fun y e hy => by
      rw [List.lookup_cons] at hy
      cases q : y == x with
      | true =>
        rw [q] at hy; cases hy
        have := eq_of_beq q; subst this
        obtain ⟨v, hn, hr⟩ := H₂.loc y _ hx
        obtain rfl := hr.inv
        exact ⟨_, hn, r₂⟩
      | false => rw [q] at hy; exact H₂.loc y e hy, H₂.own, H₂.ownL⟩
  exact wpAny_mono (h.run g₂ s H₃) (fun f s₂ h => h.up k₂) fun _ _ e => Er.up k₂ e

theorem RdAll.set {vs : List Value} {ds : List D} {v : Value} {d : D} (h : RdAll c g vs ds) (h' : Rd c g v d) (i : Nat) : RdAll c g (vs.set i v) (ds.set i d) := by
  induction ds generalizing vs i with
  | nil => cases h; simp; exact .nil
  | cons e ds ih =>
    · obtain ⟨_, _, rfl, x, r⟩ := h.inv
      cases i with
      | zero => simp; exact .cons h' r
      | succ i => simp; exact .cons x (ih r i)

/-- x[i] of the box -/
theorem Sub.bx {value slice : Expr} {p : Addr} {l : List D} {i : Int} {d : D} (hp : σ.own.lookup p = some (.bx l)) (h0 : 0 ≤ i) (h1 : i < 2 ^ 63) (e : l[i.toNat]? = some d) (hs : notSlice slice = true := by rfl) :
    Sub c a σ value slice (.adr p) (.int i) d := .mk fun g s v w H hv hw => by
  obtain ⟨_, rfl⟩ := hw.inv
  obtain rfl := hv.inv
  · obtain ⟨_, h, r⟩ := (H.owned hp).inv
    obtain ⟨x, e', q⟩ := r.get e
    exact tail_any h.typeIs slot_list_getitem.lookup (wpAny_getItem_list h h0 h1 (by simpa using e') ⟨g, Mv.refl H.stays, q⟩) (sub_hs hs)

theorem Ex.setBx {oe ie value : Expr} {pos pos' : Pos} {p : Addr} {l : List D} {i : Int} {d : D} {ω : Own} (hv : Ev c a σ value (.ok (d, ω))) (ho : Ev c a ⟨σ.loc, ω⟩ oe (.ok (.adr p, ω))) (hi : Ev c a ⟨σ.loc, ω⟩ ie (.ok (.int i, ω))) (hp : ω.lookup p = some (.bx l))
    (h0 : 0 ≤ i) (h1 : i < 2 ^ 63) (hl : i < l.length) (hs : swapsWith value (some (.Subscript oe ie pos')) pos.line a.env = pure false := by rfl) :
    Ex c a σ (.Assign [.Subscript oe ie pos'] value pos) (.ok (.next ⟨σ.loc, setOwn ω p (.bx (l.set i.toNat d))⟩)) := .mk fun g s H => by
  refine wpAny_Assign_Subscript (hv.then H (fun v s₁ g₁ k₁ H₁ r₁ => ?_)) hs
  refine ho.then H₁ (fun w s₂ g₂ k₂ H₂ r₂ => ?_)
  refine hi.then H₂ (fun u s₃ g₃ k₃ H₃ r₃ => ?_)
  obtain rfl := r₂.inv
  obtain ⟨_, rfl⟩ := r₃.inv
  · obtain ⟨vs, h, r⟩ := (H₃.owned hp).inv
    refine wpAny_setItem_list h h0 h1 (by simp only [List.size_toArray]; rw [r.length]; exact hl) fun h' hl' hs' => ?_
    refine ⟨_, rfl, g₃, fun b o e => k₃ b o (k₂ b o (k₁ b o e)), H₃.set (k := s₃.toks) hp (fun b o hb e => hs'.extBut b o hb e) (.bx (vs := vs.set i.toNat v) ?_ (r.set ((r₁.up k₂).up k₃) _))⟩
    simpa using hl'

noncomputable def storedD (l : List (List UInt8 × D)) (k : List UInt8) (d : D) : List (List UInt8 × D) :=
  if l.any (fun kv => kv.1 = k) then l.map (fun kv => if kv.1 = k then (kv.1, d) else kv) else l ++ [(k, d)]
theorem RdKv.any {kvs : List (List UInt8 × Value)} {ds : List (List UInt8 × D)} (r : RdKv c g kvs ds) (k : List UInt8) : kvs.any (fun kv => kv.1 = k) = ds.any (fun kv => kv.1 = k) := by
  induction ds generalizing kvs with
  | nil => obtain rfl := r.inv; rfl
  | cons p ds ih => obtain ⟨v, w, rfl, h, r⟩ := r.inv; rw [List.any_cons, List.any_cons, ih r]
theorem RdKv.append {kvs kvs' : List (List UInt8 × Value)} {ds ds' : List (List UInt8 × D)} (r : RdKv c g kvs ds) (r' : RdKv c g kvs' ds') : RdKv c g (kvs ++ kvs') (ds ++ ds') := by
  induction ds generalizing kvs with
  | nil => obtain rfl := r.inv; exact r'
  | cons p ds ih => obtain ⟨v, w, rfl, h, r⟩ := r.inv; exact .cons h (ih r)
theorem RdKv.over (k : List UInt8) {v : Value} {d : D} (h : Rd c g v d) {kvs : List (List UInt8 × Value)} {ds : List (List UInt8 × D)} (r : RdKv c g kvs ds) : RdKv c g (kvs.map (fun kv => if kv.1 = k then (kv.1, v) else kv)) (ds.map (fun kv => if kv.1 = k then (kv.1, d) else kv)) := by
  induction ds generalizing kvs with
  | nil => obtain rfl := r.inv; exact .nil
  | cons p ds ih =>
    · obtain ⟨k', d'⟩ := p
      obtain ⟨v', _, rfl, x, r⟩ := r.inv
      simp only [List.map_cons]
      by_cases hk : k' = k
      · subst hk; simp only [if_true]; exact .cons h (ih r)
      · simp only [hk, if_false]; exact .cons x (ih r)
theorem RdKv.stored {kvs : List (List UInt8 × Value)} {ds : List (List UInt8 × D)} (r : RdKv c g kvs ds) (k : List UInt8) {v : Value} {d : D} (h : Rd c g v d) : RdKv c g (PySem.stored kvs k v) (storedD ds k d) := by
  unfold PySem.stored storedD
  rw [r.any]
  split
  · exact r.over k h
  · exact r.append (.cons h .nil)

theorem Ex.setDct {oe ie value : Expr} {pos pos' : Pos} {p : Addr} {l : List (List UInt8 × D)} {k : List UInt8} {d : D} {ω : Own} (hv : Ev c a σ value (.ok (d, ω))) (ho : Ev c a ⟨σ.loc, ω⟩ oe (.ok (.adr p, ω))) (hi : Ev c a ⟨σ.loc, ω⟩ ie (.ok (.bytes k, ω))) (hp : ω.lookup p = some (.dct l)) (hz : l.length ≤ 1000)
    (hs : swapsWith value (some (.Subscript oe ie pos')) pos.line a.env = pure false := by rfl) :
    Ex c a σ (.Assign [.Subscript oe ie pos'] value pos) (.ok (.next ⟨σ.loc, setOwn ω p (.dct (storedD l k d))⟩)) := .mk fun g s H => by
  refine wpAny_Assign_Subscript (hv.then H (fun v s₁ g₁ k₁ H₁ r₁ => ?_)) hs
  refine ho.then H₁ (fun w s₂ g₂ k₂ H₂ r₂ => ?_)
  refine hi.then H₂ (fun u s₃ g₃ k₃ H₃ r₃ => ?_)
  obtain rfl := r₂.inv
  obtain ⟨_, rfl⟩ := r₃.inv
  · obtain ⟨kvs, h, r, n⟩ := (H₃.owned hp).inv
    have hlen := r.length
    refine wpAny_setItem_pairs (key_is (c := c) k _) h (fun h' hm hs' => ?_) (by rw [sizeLine_eq]; omega)
    exact ⟨_, rfl, g₃, fun b o e => k₃ b o (k₂ b o (k₁ b o e)), H₃.set hp (fun b o hb e => hs'.extBut b o hb e) (.dct hm (r.stored k ((r₁.up k₂).up k₃)) n)⟩
end

section
open PySem PySem.W PySem.Calls PyProof.Rows PySem.SeqAt
open Builtin Builtin.ObjectAttr
variable {c : Cx} {a : Act} {g : Heap} {s : Shared} {σ : Sg}

noncomputable abbrev excBm : List Value := [.type "Exception", .type "BaseException", .type "object"]
/-- the class of the program's errors -/
structure ErrCls (c : Cx) (fI : Addr) (fd : FuncData) (body : List Stmt) : Prop where
  cls : ∀ h, c.wd h → ∃ nm q N bs sn sub ab col dd k0 k1 k2 k3 k5 mN, h.get? c.C = some (excClassObj nm q c.C N bs excBm true sn sub ab col dd k0 k1 k2 k3 k5 "Exception.__new__") ∧ h.Ns N mN ∧ mN "__init__" = some (.ref fI) ∧ mN "__setattr__" = none ∧ mN "code" = none ∧ mN "text" = none ∧ mN "__getattribute__" = none ∧ mN "__getattr__" = none
  fn : ∀ h, c.wd h → ∃ o, h.get? fI = some o ∧ o.cls = .type "function" ∧ o.data = .func fd
  data : FnData c fd ["self", "code", "text"] body

noncomputable abbrev excObj (C t : Addr) (dx : Option Addr) : Obj := { cls := .ref C, dict := dx, data := .fields #[.ref t, .none, .none, .none, .bool false, .none] }

section
variable {prog : Program} {w : World} {A : Around} {E : Value → Shared → Prop} {h : Heap} {gg : Array GenState} {d : Drawn} {t : Nat} {os : OsState}
variable {nm q : PySem.Str} {C N : Addr} {bs : List Value} {sn : List PySem.Str} {sub : List Value} {ab : Bool} {col : Option Bool} {dd : Option Addr} {k0 k1 k2 k3 k5 : Option Value} {mN : PySem.Str → Option Value}

/-- Exception.__init__ on a made error -/
theorem exc_init {e t0 : Addr} {rest : List Value} {Q : Value → Shared → Prop} (hC : h.get? C = some (excClassObj nm q C N bs excBm true sn sub ab col dd k0 k1 k2 k3 k5 "Exception.__new__")) (he : h.get? e = some (excObj C t0 .none))
    (hq : ∀ h' t', h'.get? e = some (excObj C t' .none) → (∀ b o, b ≠ e → h.get? b = some o → h'.get? b = some o) → Q .none ⟨h', gg, d, t, os⟩) (hrest : rest.length ≤ sizeLine) :
    wpAny (model prog w) A (call (.builtin "Exception.__init__") (.ref e :: rest)) Q E ⟨h, gg, d, t, os⟩ := by
  have F := PySem.F.excBase_Exception
  refine wpAny_call (codeAny_call_builtin F.init.plain F.initEntry (wpAny_check_init_sub F hC he rfl ?_))
  wp_walk
  have hne : e ≠ h.objs.size := Nat.ne_of_lt (Heap.lt_size he)
  refine hq _ h.objs.size ?_ fun b o hb ho => ?_
  · rw [Heap.get?_update_self _ (Heap.get?_push_of_some _ he) rfl]
    rfl
  · rw [Heap.get?_update_other _ _ (Ne.symm hb)]
    exact Heap.get?_push_of_some _ ho

/-- what holds after the first store to an error's own name: its dict is made -/
noncomputable def Stored1 (h : Heap) (x : Addr) (o : Obj) (name : PySem.Str) (v : Value) (h' : Heap) : Prop :=
  h'.get? x = some { o with dict := some h.objs.size } ∧ h'.Ns1 h.objs.size (fun y => if y = name then some v else none) ∧ ∀ b ob, b ≠ x → h.get? b = some ob → h'.get? b = some ob
set_option maxHeartbeats 1000000 in
theorem store1_entry {x : Addr} {o : Obj} {name : PySem.Str} {v : Value} {tk : Tok} {Q : PySem.Fin → Shared → Prop} (hC : h.get? C = some (excClassObj nm q C N bs excBm true sn sub ab col dd k0 k1 k2 k3 k5 "Exception.__new__")) (hn : h.Ns N mN) (hna : mN name = none)
    (hB : typeLookup (.type "Exception") name = pure none) (hx : h.get? x = some o) (hc : o.cls = .ref C) (hnc : ∀ c, o.data ≠ .cls c) (hdn : o.dict = none)
    (hq : ∀ h' tk', Stored1 h x o name v h' → Q (.done (.ret .none)) ⟨h', gg, d, tk', os⟩) :
    wpAny (model prog w) A (Builtin.«object.__setattr__» ⟨[.ref x, .str name tk, v], []⟩) Q E ⟨h, gg, d, t, os⟩ := by
  have SF := PySem.F.store_Exception
  have hpass := SF.passes (.ref x)
  unfold Builtin.«object.__setattr__»
  repeat (first | rw [refuse_eq] | (rw [refuseLoop_ref, hpass]) | (with_reducible refine wpAny_loadPart_at hx ?_; rw [hc]) | with_reducible refine wpAny_mroOf_exc hC ?_ | (with_reducible refine wpAny_typeLookup_exc hC hn SF.mro hB ?_; rw [hna]) | wp_step)
  rw [hdn, if_neg (by simp [typeHasDict])]
  split
  · rename_i hcd
    cases hcd
  split
  · rename_i c hcd
    exact absurd hcd (hnc c)
  · have hx₁ : (h.push { cls := .type "dict", data := .dict #[] }).get? x = some o := Heap.get?_push_of_some _ hx
    have hxs : x ≠ h.objs.size := Nat.ne_of_lt (Heap.lt_size hx)
    refine wpAny_bind (wpAny_alloc' ?_)
    refine wpAny_bind (wpAny_update' hx₁ ?_)
    refine wpAny_pure ?_
    have hgd : ((h.push { cls := .type "dict", data := .dict #[] }).update x fun o => { cls := o.cls, dict := some h.objs.size, data := o.data, slots := o.slots }).get? h.objs.size
        = some { cls := .type "dict", data := .dict #[] } :=
      (Heap.get?_update_ne _ _ _ _ hxs.symm).trans (Heap.get?_push_at rfl rfl)
    have hnd : ((h.push { cls := .type "dict", data := .dict #[] }).update x fun o => { cls := o.cls, dict := some h.objs.size, data := o.data, slots := o.slots }).Ns h.objs.size (fun _ => none) :=
      ⟨_, #[], _, hgd, rfl, fun e he => absurd he (by simp), fun _ => rfl⟩
    show wpAny _ _ (storeInDict h.objs.size (.str name tk) name v) _ _ _
    unfold storeInDict newKeyGuard
    refine wpAny_bind (wpAny_pure (wpAny_bind (wpAny_nsSet1 (Heap.Ns1.of_empty hnd) fun h' hn' hs => ?_)))
    obtain ⟨oD, esD, epD, hoD, hdD, hcD⟩ := hn'.count (Within.cons name v Within.nil)
    refine wpAny_bind (wpAny_lookBehind hoD (by rw [hdD]; exact pastItsLine_dict (Nat.le_trans hcD (by rw [List.length_cons, List.length_nil, sizeLine_eq]; omega))) ?_)
    wp_walk
    refine hq h' _ ⟨?_, hn', fun b ob hb e => ?_⟩
    · refine (hs.2 x hxs).trans (Heap.get?_update_self _ hx₁ ?_)
      have hfr := (Heap.get?_some_iff.mp hx).2
      obtain ⟨oc, od, odt, osl⟩ := o
      cases odt <;> first | rfl | exact hfr
    · exact (hs.2 b (Nat.ne_of_lt (Heap.lt_size e))).trans ((Heap.get?_update_ne _ _ _ _ hb).trans (Heap.get?_push_of_some _ e))
theorem store1_call {sa owner : String} (SF : StoreFacts "Exception" excBm sa owner) {x : Addr} {o : Obj} {name : PySem.Str} {v : Value} {tk : Tok} {R : Result → Shared → Prop} (hC : h.get? C = some (excClassObj nm q C N bs excBm true sn sub ab col dd k0 k1 k2 k3 k5 "Exception.__new__")) (hn : h.Ns N mN) (hna : mN name = none)
    (hB : typeLookup (.type "Exception") name = pure none) (hx : h.get? x = some o) (hc : o.cls = .ref C) (hnc : ∀ c, o.data ≠ .cls c) (hdn : o.dict = none)
    (hq : ∀ h' tk', Stored1 h x o name v h' → R (.ok (.ret .none)) ⟨h', gg, d, tk', os⟩) :
    codeAny (model prog w) A (.call (.builtin sa) ⟨[.ref x, .str name tk, v], []⟩) R ⟨h, gg, d, t, os⟩ := by
  refine codeAny_call_builtin SF.slot.plain SF.entry (wpAny_check_sa SF hC hx hc ?_)
  exact store1_entry hC hn hna hB hx hc hnc hdn hq
set_option maxHeartbeats 1000000 in
theorem store1 {sa owner : String} (SF : StoreFacts "Exception" excBm sa owner) {x : Addr} {o : Obj} {name : PySem.Str} {v : Value} {Q : Unit → Shared → Prop} (hC : h.get? C = some (excClassObj nm q C N bs excBm true sn sub ab col dd k0 k1 k2 k3 k5 "Exception.__new__")) (hn : h.Ns N mN) (hns : mN "__setattr__" = none) (hna : mN name = none)
    (hB : typeLookup (.type "Exception") name = pure none) (hx : h.get? x = some o) (hc : o.cls = .ref C) (hnc : ∀ c, o.data ≠ .cls c) (hdn : o.dict = none)
    (hq : ∀ h' tk', Stored1 h x o name v h' → Q () ⟨h', gg, d, tk', os⟩) :
    wpAny (model prog w) A (setAttr (.ref x) name v) Q E ⟨h, gg, d, t, os⟩ := by
  have f3 := SF.slot.bind (.ref x)
  unfold setAttr callSpecial? specialOf
  repeat (any_goals (first | assumption | (with_reducible refine wpAny_loadPart_at hx ?_; rw [hc]) | (with_reducible refine wpAny_typeLookup_exc hC hn SF.mro SF.slot.lookup ?_; rw [hns]) | wp_step))
  refine store1_call SF hC hn hna hB hx hc hnc hdn fun h' tk' hst => ?_
  repeat (any_goals (first | assumption | wp_step))
  exact hq h' tk' hst
end
end

section
open PySem PySem.W PySem.Calls PyProof.Rows PySem.SeqAt
variable {c : Cx} {a : Act} {g : Heap} {s : Shared} {σ : Sg}

theorem Mv.edit {F : List Addr} {g0 : Heap} {s0 : Shared} {e dx : Addr} (x : Mv F [e] g0 s0 g s) {h' : Heap} {k : Nat} (keep : ∀ d o, d ≠ e → d ≠ dx → s.heap.get? d = some o → h'.get? d = some o) (hg : g.get? e = none) (hdx : s0.heap.get? dx = none) (hgd : g.get? dx = none) (hex : ∃ o, h'.get? e = some o) :
    Mv F [e] g0 s0 g { s with heap := h', toks := k } := by
  refine ⟨x.gg, fun d o q => keep d o (fun z => by rw [z, hg] at q; cases q) (fun z => by rw [z, hgd] at q; cases q) (x.gs d o q), x.old, fun d o q => ?_, fun d o hB hF q => ?_, fun d m hB hF q => ?_, x.gens, x.os⟩
  · by_cases hd : d = e
    · subst hd; exact hex
    · obtain ⟨o', q'⟩ := x.there d o q
      exact ⟨o', keep d o' hd (fun z => by rw [z, hdx] at q; cases q) q'⟩
  · exact keep d o (by simpa using hB) (fun z => by rw [z, hdx] at q; cases q) (x.kept d o hB hF q)
  · have hd : d ≠ dx := fun z => by obtain ⟨o, _, _, q, _⟩ := q; rw [z, hdx] at q; cases q
    exact (x.keptF d m hB hF q).at' fun o q' => keep d o (by simpa using hB) hd q'

theorem CallOk.strInt (i : Int) (hi : i.natAbs.log2 < 1920) : CallOk c a σ (.typ "str") [.int i] (.ok (.str (PySem.Str.ofString (toString i)), σ.own)) := .of fun g s v vs H hv hvs => by
  obtain rfl := hv.inv
  · obtain ⟨_, _, rfl, h, r⟩ := hvs.inv
    obtain rfl := r.inv; obtain ⟨_, rfl⟩ := h.inv
    exact P.str_of_int hi ⟨g, Mv.toks H.stays _, .str _ _⟩

theorem Call_attr {A : Around} {M : Model} {E : Value → Shared → Prop} {env : Env} {o : Expr} {name : PySem.Str} {apos pos : Pos} {args : List Expr} {Q : Value → Shared → Prop}
    (h : wpAny M A (eval o env) (fun ov s₁ => ∀ pl, wpAny M A (getMethod ov name pl) (fun fx s₂ => wpAny M A (callWith pos fx.1 fx.2 (backTo pos (starEach args env)) (backToKw pos (keywordEach [] env))) Q E s₂) E s₁) E s)
    (hbase : attributeBase o name env (eval o env) = eval o env)
    (hfew : methodCallForm (args.length + ([] : List Keyword).length) (backTo pos (starEach args env)) (backToKw pos (keywordEach [] env)) = true)
    (hline : (apos.endLine == pos.line) = true) :
    wpAny M A (eval (.Call (.Attribute o name apos) args [] pos) env) Q E s := by
  rw [arm_eval_Call, hbase]
  refine wpAny_bind (wpAny_mono h (fun ov s₁ h₁ => ?_) fun _ _ e => e)
  refine wpAny_bind (wpAny_standAt ?_)
  unfold methodCall
  rw [hfew]
  refine wpAny_bind (wpAny_holding (wpAny_mono (h₁ _) (fun fx s₂ h₂ => ?_) fun _ _ e => e))
  have hpos : methodCallPos true o env apos pos = pure pos := by unfold methodCallPos; simp [hline]
  exact wpAny_bind (wpAny_of_eq hpos h₂)

theorem ty_exc : typeOf (.type "Exception") = pure (.type "type") := by kernel_rfl
theorem stub_exc : Manifest.isStub "Exception" = false := by decide +kernel
theorem find_exc : findCls [] (.type "Exception") (.type "type") "__init__" = some (.val (.builtin "Exception.__init__")) := by first | rfl | kernel_rfl
theorem no_code : typeLookup (.type "Exception") "code" = pure none := by rw [typeLookup_type, builtinLookup_eq_fast]; kernel_rfl
theorem no_text : typeLookup (.type "Exception") "text" = pure none := by rw [typeLookup_type, builtinLookup_eq_fast]; kernel_rfl

theorem St.inF (H : St c a g s σ) {b : Addr} (hb : b ∈ a.F) : ∃ o m, s.heap.get? b = some o ∧ s.heap.Ns b m := by
  obtain ⟨l, hl, hF, hfr⟩ := H.fr
  rw [hF] at hb
  obtain ⟨env, he, hf⟩ := List.mem_filterMap.mp hb
  obtain ⟨_, L, m, hL, _, hn⟩ := hfr env he
  rw [hL] at hf; cases hf
  obtain ⟨o, es, ep, ho, r⟩ := id hn
  exact ⟨o, m, ho, hn⟩

theorem inter_fn {f : FuncData} {L fa : Addr} (h : f.scope.kind = .function) : interactive (callEnvC f L fa) = false := by
  unfold interactive
  simp [callEnvC, newEnv, h]

set_option maxHeartbeats 1000000 in
/-- the body of the error's own __init__ -/
theorem init_ok {fI : Addr} {fd : FuncData} {body : List Stmt} (R : ErrCls c fI fd body) {A : Around} {m : Nat} {L fa : Addr} {F : List Addr} {g0 : Heap} {s0 : Shared} {e t0 : Addr} {x : PySem.Str}
    {p1 p2 p3 p4 p5 p6 p7 p8 p9 p10 p11 p12 q1 q2 q3 q4 r1 r2 r3 r4 : Pos} {k1 : Nat}
    (hbody : body = [.Expr (.Call (.Attribute (.Name "Exception" p1) "__init__" p2) [.Name "self" p3, .BinOp (.BinOp (.Call (.Name "str" p4) [.Name "code" p5] [] p6) .Add (.Constant (.str ": ") k1 p7) p8) .Add (.Name "text" p9) p10] [] p11) p12,
      .Assign [.Attribute (.Name "self" q1) "code" q2] (.Name "code" q3) q4, .Assign [.Attribute (.Name "self" r1) "text" r2] (.Name "text" r3) r4])
    (hk1 : fd.scope.names.lookup ("self" : PySem.Str) = some NameKind.local) (hk2 : fd.scope.names.lookup ("code" : PySem.Str) = some NameKind.local) (hk3 : fd.scope.names.lookup ("text" : PySem.Str) = some NameKind.local) (hk4 : fd.scope.names.lookup ("Exception" : PySem.Str) = some NameKind.globalImplicit) (hk5 : fd.scope.names.lookup ("str" : PySem.Str) = some NameKind.globalImplicit)
    (hg1 : c.mg "Exception" = none) (hg2 : c.mb "Exception" = some (.type "Exception")) (hg3 : c.mg "str" = none) (hg4 : c.mb "str" = some (.type "str"))
    (H : St c (actOf fd A m L fa F g0 s0 []) g s ⟨[("self", .adr e), ("code", .int 270), ("text", .str x)], []⟩) (he0 : s0.heap.get? e = some (excObj c.C t0 none)) (heg : g.get? e = none) (heF0 : e ∉ F) (hx : x.length ≤ 1000) (hline : (p2.endLine == p11.line) = true) :
    wpAny c.M A (execs body (callEnvC fd L fa)) (fun f s' => f = .next ∧ ∃ g' dx t' mx tk, g.StaysIn g' ∧ Mv F [e] g0 s0 g' s' ∧ s'.heap.get? e = some (excObj c.C t' (some dx)) ∧ s'.heap.Ns dx mx ∧ mx "code" = some (.int 270 tk) ∧ s0.heap.get? dx = none ∧ g'.get? dx = none ∧ dx ∉ F ∧ dx ≠ e)
      (fun _ _ => False) s := by
  subst hbody
  have he : s.heap.get? e = some (excObj c.C t0 none) := by
    by_cases hF : e ∈ F
    · obtain ⟨o, mm, ho, hn⟩ := H.inF (show e ∈ (actOf fd A m L fa F g0 s0 []).F from hF)
      exact absurd hF (heF0)
    · exact H.mv.kept e _ (by simp) hF he0
  have heF : e ∉ F := heF0
  have heL : e ≠ L := fun q => by
    obtain ⟨mm, o, es, ep, ho, hd, _⟩ := H.ns
    have ho' : s.heap.get? L = some o := ho
    rw [← q, he] at ho'; cases ho'; cases hd
  refine wpAny_execs_cons (wpAny_Expr ?_ (inter_fn R.data.kind) rfl)
  refine Call_attr (wpAny_mono ((Ev.bltn (c := c) (a := actOf fd A m L fa F g0 s0 []) (σ := ⟨[("self", .adr e), ("code", .int 270), ("text", .str x)], []⟩) (d := .typ "Exception") (pos := p1) hg1 hg2 (fun _ _ => .typ _) hk4).run g s H) (fun v s₁ h₁ pl => ?_) fun _ _ q => (nomatch q.1)) rfl rfl hline
  obtain ⟨_, _, q, g₁, k₁, H₁, r₁⟩ := h₁
  cases q; obtain rfl := r₁.inv
  obtain ⟨Lf, mf, hLf, hLg, hNs⟩ := H₁.off
  refine method_type (K := []) (kFr hNs) (fun a o q => (by cases q)) ty_exc stub_exc find_exc rfl ?_
  have H₂ := H₁.toks (s₁.toks + 1)
  have args : EvAll c (actOf fd A m L fa F g0 s0 []) ⟨[("self", .adr e), ("code", .int 270), ("text", .str x)], []⟩ p11 [.Name "self" p3, .BinOp (.BinOp (.Call (.Name "str" p4) [.Name "code" p5] [] p6) .Add (.Constant (.str ": ") k1 p7) p8) .Add (.Name "text" p9) p10]
      (.ok ([.adr e, .str (PySem.Str.ofString (toString (270 : Int)) ++ (": " : PySem.Str) ++ x)], [])) := by
    refine .cons (.name rfl) (.cons ?_ .nil)
    refine .bin (.bin (.call (f := .typ "str") trivial (.bltn hg3 hg4 (fun _ _ => .typ _) hk5) (.cons (.name rfl) .nil) (.strInt 270 (by decide))) (.str _ _ _) (Bin.addStr _ _ (by rw [sizeLine_eq]; decide +kernel))) (.name rfl) (Bin.addStr _ _ ?_)
    have : (PySem.Str.ofString (toString (270 : Int)) ++ (": " : PySem.Str)).length ≤ 100 := by decide +kernel
    rw [sizeLine_eq]; omega
  refine callWith_of (P := fun h => g₁.StaysIn h) ?_ (fun h _ => ⟨.machine, .inr (.inl rfl), fun A Q E s k q => wpAny_pure q⟩) ?_
  · rfl
  refine evalArgs_plain (args.then H₂ (fun vs s₂ g₂ k₂ H₃ r₂ => ?_))
  refine ⟨fun b o e => H₃.stays b o (k₂ b o e), ?_⟩
  obtain ⟨_, _, rfl, ha, rr⟩ := r₂.inv
  obtain ⟨_, _, rfl, hb, rr⟩ := rr.inv
  obtain rfl := rr.inv
  obtain rfl := ha.inv
  have he₂ : s₂.heap.get? e = some (excObj c.C t0 none) := H₃.mv.kept e _ (by simp) heF he0
  have hg₂ : g₂.get? e = none := (H₃.mv.old e _ he0).trans (((H.mv.old e _ he0).symm.trans heg))
  obtain ⟨nm, q, N, bs, sn, sub, ab, col, dd, k0, k1', k2', k3, k5, mN, hC, hN, hi, hsa, hco, htx, hga, hgt⟩ := R.cls g₂ H₃.wd
  obtain ⟨mL, hnL⟩ := H₃.ns
  have fF : ∀ b ∈ F, ∃ o, s₂.heap.get? b = some o := fun b hb => let ⟨o, _, ho, _⟩ := H₃.inF (show b ∈ (actOf fd A m L fa F g0 s0 []).F from hb); ⟨o, ho⟩
  have nameL : ∀ {n : PySem.Str} {d : D}, fd.scope.names.lookup n = some NameKind.local → ([(("self" : PySem.Str), D.adr e), ("code", .int 270), ("text", .str x)] : List (PySem.Str × D)).lookup n = some d → ∃ v, mL n = some v ∧ Rd c g₂ v d := fun hk hl => by
    obtain ⟨v, hn, hr⟩ := H₃.loc _ _ hl
    cases hn with
    | loc _ n' e' => rw [ns_fun hnL n']; exact ⟨v, e', hr⟩
    | cell k _ _ =>
      have k' : fd.scope.names.lookup _ = some NameKind.cell ∨ fd.scope.names.lookup _ = some NameKind.free := k
      rw [hk] at k'; rcases k' with k' | k' <;> cases k'
  obtain ⟨vs, es, rs⟩ := nameL hk1 rfl
  obtain ⟨vc, ec, rc⟩ := nameL hk2 rfl
  obtain ⟨vt, et, rt⟩ := nameL hk3 rfl
  obtain rfl := rs.inv; obtain ⟨_, rfl⟩ := rc.inv; obtain ⟨_, rfl⟩ := rt.inv
  rename_i tkc tkt
  have mv₂ : Mv F [e] g0 s0 g₂ s₂ := H₃.mv.mono (fun b hb => by cases hb) (fun b hb => .inl hb) fun b hb => hb
  obtain ⟨hh, gg, dr, t, os⟩ := s₂
  refine exc_init (H₃.stays _ _ hC) he₂ (fun h₃ t' he₃ keep₃ => ?_) (by rw [sizeLine_eq]; simp)
  have hx₂ : ∃ o, hh.get? e = some o := ⟨_, he₂⟩
  have mv₃ : Mv F [e] g0 s0 g₂ ⟨h₃, gg, dr, t, os⟩ := by
    have x := mv₂
    refine ⟨x.gg, fun d o q => keep₃ d o (fun z => by rw [z, hg₂] at q; cases q) (x.gs d o q), x.old, fun d o q => ?_, fun d o hB hF q => keep₃ d o (by simpa using hB) (x.kept d o hB hF q), fun d m hB hF q => ?_, x.gens, x.os⟩
    · by_cases hd : d = e
      · subst hd; exact ⟨_, he₃⟩
      · obtain ⟨o', q'⟩ := x.there d o q; exact ⟨o', keep₃ d o' hd q'⟩
    · exact (x.keptF d m hB hF q).at' fun o q' => keep₃ d o (by simpa using hB) q'
  have nL₃ : h₃.Ns L mL := (show hh.Ns L mL from hnL).at' fun o q => keep₃ L o (Ne.symm heL) q
  have kf := R.data.kind
  show wpAny c.M A (execs _ (callEnvC fd L fa)) _ _ _
  refine wpAny_execs_cons (plainObj_wpAny_Assign_Attribute (wpAny_Name (wpAny_loadName_local kf hk2 nL₃ ec (wpAny_Name (wpAny_loadName_local kf hk1 nL₃ es ?_) (by decide))) (by decide)) rfl)
  refine store1 PySem.F.store_Exception (mv₃.gs _ _ hC) (hN.keeps mv₃.gs) hsa hco no_code he₃ rfl (fun c q => by cases q) rfl fun h₄ tk₄ ⟨he₄, hd₄, keep₄⟩ => ?_
  generalize hdx : h₃.objs.size = dx at he₄ hd₄
  have dx₃ : h₃.get? dx = none := by rw [← hdx]; exact new_at_size
  have dxe : dx ≠ e := fun q => by rw [q, he₃] at dx₃; cases dx₃
  have dxL : dx ≠ L := fun q => by obtain ⟨o, _, _, ho, _⟩ := nL₃; rw [q, ho] at dx₃; cases dx₃
  have dxF : dx ∉ F := fun q => by obtain ⟨o, ho⟩ := fF dx q; rw [keep₃ dx o dxe ho] at dx₃; cases dx₃
  have dxg : g₂.get? dx = none := by
    cases q : g₂.get? dx with
    | none => rfl
    | some o => have := mv₃.gs _ _ q; rw [show (⟨h₃, gg, dr, t, os⟩ : Shared).heap = h₃ from rfl, dx₃] at this; cases this
  have dxs : s0.heap.get? dx = none := by
    cases q : s0.heap.get? dx with
    | none => rfl
    | some o => obtain ⟨o', h'⟩ := mv₃.there _ _ q; rw [show (⟨h₃, gg, dr, t, os⟩ : Shared).heap = h₃ from rfl, dx₃] at h'; cases h'
  have mv₄ : Mv F [e] g0 s0 g₂ ⟨h₄, gg, dr, tk₄, os⟩ := mv₃.edit (k := tk₄) (dx := dx) (fun b o hb _ q => keep₄ b o hb q) hg₂ dxs dxg ⟨_, he₄⟩
  have nL₄ : h₄.Ns L mL := nL₃.at' fun o q => keep₄ L o (Ne.symm heL) q
  refine wpAny_execs_cons (plainObj_wpAny_Assign_Attribute (wpAny_Name (wpAny_loadName_local kf hk3 nL₄ et (wpAny_Name (wpAny_loadName_local kf hk1 nL₄ es ?_) (by decide))) (by decide)) rfl)
  have eC : e ≠ c.C := fun q => by
    have := mv₃.gs _ _ hC; rw [show (⟨h₃, gg, dr, t, os⟩ : Shared).heap = h₃ from rfl, ← q, he₃] at this; cases this
  refine store_attr (ns := [("code" : PySem.Str)]) PySem.F.store_Exception (mv₄.gs _ _ hC) (hN.keeps mv₄.gs) hsa htx no_text eC ⟨_, he₄, rfl, (fun c q => by cases q), .inr ⟨dx, rfl, dxe, hd₄⟩⟩ (fun h₅ tk₅ I₅ keep₅ same₅ => ?_) (Within.cons _ _ Within.nil) (by rw [sizeLine_eq]; decide)
  obtain ⟨o₁, ho₁, c1, c2, c3, c4⟩ := same₅ _ he₄
  have he₅ : h₅.get? e = some (excObj c.C t' (some dx)) := by
    rw [ho₁]
    obtain ⟨oc, od, oda, osl⟩ := o₁
    dsimp only at c1 c2 c3 c4
    rw [c1, c2, c3, c4 dx rfl]
  obtain ⟨o₂, ho₂, _, _, hdd⟩ := I₅
  rw [he₅] at ho₂; cases ho₂
  rcases hdd with ⟨z, _⟩ | ⟨d', z, _, hns⟩
  · cases z
  cases z
  have mv₅ : Mv F [e] g0 s0 g₂ ⟨h₅, gg, dr, tk₅, os⟩ := mv₄.edit (k := tk₅) (dx := dx) (fun b o hb hd q => keep₅ b o hb (fun o₀ dx' q1 q2 => by rw [he₄] at q1; cases q1; cases q2; exact hd) q) hg₂ dxs dxg ⟨_, he₅⟩
  refine wpAny_execs_nil ⟨rfl, g₂, dx, t', _, tkc, fun b o q => k₂ b o (k₁ b o q), mv₅, he₅, hns.ns, ?_, dxs, dxg, dxF, dxe⟩
  rw [if_neg (by decide), if_pos rfl]
end

section
open PySem PySem.W PySem.Calls PyProof.Rows PySem.SeqAt
variable {c : Cx} {a : Act} {g : Heap} {s : Shared} {σ : Sg}

section
variable {M : Model} {A : Around} {E : Value → Shared → Prop} {env : Env}
variable {nm q : PySem.Str} {C N : Addr} {bs : List Value} {sn : List PySem.Str} {sub : List Value} {ab : Bool} {col : Option Bool} {dd : Option Addr} {k0 k1 k2 k3 k5 : Option Value}
theorem raise_made {x : Sem Value} {Q : Flow → Shared → Prop} (hh : A.handled = none)
    (h : wpAny M A x (fun v s₁ => ∃ e t0 dx, v = .ref e ∧ s₁.heap.get? C = some (excClassObj nm q C N bs excBm true sn sub ab col dd k0 k1 k2 k3 k5 "Exception.__new__") ∧ s₁.heap.get? e = some (excObj C t0 dx) ∧ E (.ref e) s₁) E s) :
    wpAny M A (raiseStmt env (some x) none) Q E s := by
  have hcB : (Value.ref C :: excBm).contains (.type "BaseException") = true := by simp
  unfold raiseStmt
  refine wpAny_bind (wpAny_mono h (fun v s₁ h₁ => ?_) fun _ _ x => x)
  obtain ⟨e, t0, dx, rfl, hC, he, hE⟩ := h₁
  obtain ⟨hp, g, d, tk, os⟩ := s₁
  repeat (first | with_reducible refine wpAny_loadPart_at he ?_ | with_reducible refine wpAny_loadPart_at hC ?_ | (with_reducible refine wpAny_isSubtype_exc hC ?_; rw [hcB]) | wp_step)
  exact wpAny_raiseNew_none hh hE
end

theorem tc_weight (x : Args) : (Code.builtin "type.__call__" x).weight ≤ 1 := by
  unfold Code.weight
  have h1 : (Code.builtin "type.__call__" x).frames = 0 := by first | rfl | kernel_rfl
  have h2 : (Code.builtin "type.__call__" x).isCaller = false := by first | rfl | kernel_rfl
  have h3 : (Code.builtin "type.__call__" x).isGuard = false := by first | rfl | kernel_rfl
  rw [h1, h2, h3]
  split <;> simp
theorem tc_units (x : Args) : (Code.builtin "type.__call__" x).cUnits = 1 := by first | rfl | kernel_rfl

set_option maxHeartbeats 1000000 in
/-- the program's error, made and raised -/
theorem Ex.raise {fI : Addr} {fd : FuncData} {body : List Stmt} (R : ErrCls c fI fd body) {x : PySem.Str} {ω : Own} {e1 e2 : Expr} {nmE : PySem.Str} {np cpos pos : Pos}
    {p1 p2 p3 p4 p5 p6 p7 p8 p9 p10 p11 p12 q1 q2 q3 q4 r1 r2 r3 r4 : Pos} {k1 : Nat}
    (hbody : body = [.Expr (.Call (.Attribute (.Name "Exception" p1) "__init__" p2) [.Name "self" p3, .BinOp (.BinOp (.Call (.Name "str" p4) [.Name "code" p5] [] p6) .Add (.Constant (.str ": ") k1 p7) p8) .Add (.Name "text" p9) p10] [] p11) p12,
      .Assign [.Attribute (.Name "self" q1) "code" q2] (.Name "code" q3) q4, .Assign [.Attribute (.Name "self" r1) "text" r2] (.Name "text" r3) r4])
    (hk1 : fd.scope.names.lookup ("self" : PySem.Str) = some NameKind.local) (hk2 : fd.scope.names.lookup ("code" : PySem.Str) = some NameKind.local) (hk3 : fd.scope.names.lookup ("text" : PySem.Str) = some NameKind.local) (hk4 : fd.scope.names.lookup ("Exception" : PySem.Str) = some NameKind.globalImplicit) (hk5 : fd.scope.names.lookup ("str" : PySem.Str) = some NameKind.globalImplicit)
    (hg1 : c.mg "Exception" = .none) (hg2 : c.mb "Exception" = some (.type "Exception")) (hg3 : c.mg "str" = .none) (hg4 : c.mb "str" = some (.type "str"))
    (hx : x.length ≤ 1000) (hline : (p2.endLine == p11.line) = true) (hn : 2 ≤ a.n)
    (h1 : Ev c a σ (.Name nmE np) (.ok (.adr c.C, σ.own))) (h2 : EvAll c a σ cpos [e1, e2] (.ok ([.int 270, .str x], ω)))
    (he : starEach [e1, e2] a.env = (false, eval e1 a.env) :: starEach [e2] a.env := by rfl) (hplain : (backTo cpos (starEach [e2] a.env)).any (·.1) = false := by rfl) :
    Ex c a σ (.Raise (some (.Call (.Name nmE np) [e1, e2] [] cpos)) .none pos) .err := .mk fun g s H => by
  obtain ⟨nm, q, N, bs, sn, sub, ab, col, dd, k0, k1', k2', k3, k5, mN, hC, hN, hi, hsa, hco, htx, hga, hgt⟩ := R.cls g H.wd
  obtain ⟨oI, hoI, hoc, hod⟩ := R.fn g H.wd
  rw [arm_exec_Raise]
  refine wpAny_bind (wpAny_standAt ?_)
  simp only [evalOpt, Option.map]
  refine raise_made (C := c.C) (nm := nm) (q := q) (N := N) (bs := bs) (sn := sn) (sub := sub) (ab := ab) (col := col) (dd := dd) (k0 := k0) (k1 := k1') (k2 := k2') (k3 := k3) (k5 := k5) H.ok.hd ?_
  refine wpAny_bind ?_
  refine Call_Name rfl (h1.then H (fun v s₁ g₁ k₁ H₁ r₁ => ?_))
  obtain rfl := r₁.inv
  refine callWith_of (P := fun h => g₁.StaysIn h) ?_ (fun h kh => ⟨.machine, .inr (.inl rfl), fun A Q E s k q => ?_⟩) ?_
  · rw [he]; show ((false || (backTo cpos (starEach [e2] a.env)).any (·.1)) || false) = false; rw [hplain]; rfl
  · obtain ⟨hp, gg, dr, tk, os⟩ := s
    exact wpAny_keeperOf_exc (k _ _ (kh _ _ (k₁ _ _ hC))) q
  rw [he]
  refine evalArgs_plain (h2.args he H₁ fun vs s₂ g₂ k₂ H₂ r₂ => ?_)
  refine ⟨fun b o e => H₂.stays b o (k₂ b o e), ?_⟩
  obtain ⟨hp, gg, dr, tk, os⟩ := s₂
  have kg : g.StaysIn hp := fun b o e => H₂.stays b o (k₂ b o (k₁ b o e))
  have hlen : vs.length = 2 := r₂.length
  refine wpAny_call_exc_init PySem.F.excBase_Exception (kg _ _ hC) (hN.keeps kg) hi (kg _ _ hoI) hoc (rest := vs) (fun h' e hm => ?_) (by rw [hlen, sizeLine_eq]; decide)
  have m₂ : Mv a.F [] g₂ ⟨hp, gg, dr, tk, os⟩ g₂ ⟨h', gg, dr, tk, os⟩ := Mv.same H₂.stays hm.keeps
  have H₃ := H₂.move m₂
  obtain ⟨t0, het, ht0, htt⟩ := hm.there
  have g₂e : g₂.get? e = .none := H₂.g_new hm.new
  have H₄ := H₂.adopt H₃ (p := e) (d := .raw fun _ => True) hm.new g₂e (.raw ⟨_, het⟩ fun _ _ _ => trivial) (fun q hq z => by
    obtain ⟨o, ho⟩ := (H₂.own.at_ q hq).there
    rw [z] at ho
    have := hm.new
    rw [show (⟨hp, gg, dr, tk, os⟩ : Shared).heap = hp from rfl, this] at ho; cases ho)
  have hd := H.ok.depth
  have hu := H.ok.units
  refine wpAny_call (codeAny_call_cells (vals := .ref e :: vs) (binds := [("self" : PySem.Str), "code", "text"].zip (.ref e :: vs)) ?_ (H₃.stays _ _ (k₂ _ _ (k₁ _ _ hoI))) hod ((c.nolim H₃.wd).keeps H₃.stays) ((R.data.code g₂ H₃.wd).keeps H₃.stays) R.data.body ?_ R.data.clo ?_ ?_ R.data.co R.data.gen R.data.kind)
  · show a.A.depth + _ < 1000
    have := tc_weight ⟨Value.ref c.C :: vs, []⟩
    exact Nat.lt_of_le_of_lt (Nat.add_le_add_left this _) (by omega)
  · exact R.data.bind _ (by simp [hlen])
  · intro y hy
    have hy' : y.1 ∈ [("self" : PySem.Str), "code", "text"] := (List.of_mem_zip hy).1
    exact (R.data.kinds _ hy').imp id fun z => ⟨z.1, z.2 _⟩
  · intro s₁' hin
    generalize hL : h'.objs.size = L at hin ⊢
    have hLn : h'.get? L = .none := by rw [← hL]; exact new_at_size
    have eL : e ≠ L := fun z => by rw [z, hLn] at het; cases het
    have eF := (H₄.own.out (e, .raw fun _ => True) (.head _)).2
    have Hin := enter_ok (A' := a.A.under (.builtin "type.__call__" ⟨Value.ref c.C :: vs, []⟩)) (m := 0) (ωi := []) (fa := fI) R.data H₄ (.cons (.adr e) r₂) rfl (fun p hp => by cases hp) (by simp) rfl H.ok.hd
      (by have := tc_weight ⟨Value.ref c.C :: vs, []⟩; show a.A.depth + _ + 1 + 10 * 0 ≤ 900; omega) (by have := tc_units ⟨Value.ref c.C :: vs, []⟩; show a.A.units + _ + 3 + 100 * 0 ≤ 9000; omega) hL hin
    refine wpAny_mono (init_ok R hbody hk1 hk2 hk3 hk4 hk5 hg1 hg2 hg3 hg4 Hin het g₂e (fun z => (List.mem_cons.mp z).elim eL eF) hx hline) (fun f s' h => ?_) fun _ _ z => z.elim
    obtain ⟨rfl, g', dx, t', mx, tk', kg', mv', he', hns, hmx, dxs, dxg, dxF, dxe⟩ := h
    refine ⟨rfl, ?_⟩
    have m' : Mv a.F [e] g₂ ⟨h', gg, dr, tk, os⟩ g' s' := mv'.mono (fun b hb => .inl hb) (fun b hb => (List.mem_cons.mp hb).elim (fun z => .inr (z ▸ hLn)) .inl) fun b hb => .tail _ hb
    have H₅ : St c a g' s' ⟨σ.loc, []⟩ := H₄.back m' (fun b hb => ⟨.raw fun _ => True, by rw [List.mem_singleton.mp hb]; exact .head _⟩) [] (fun p hp => by cases hp) (by simp)
    refine wpAny_bind (wpAny_standAt (wpAny_pure ⟨e, t', some dx, rfl, m'.gs _ _ (m'.gg _ _ (k₂ _ _ (k₁ _ _ hC))), he', rfl, g', ⟨σ.loc, []⟩, fun b o z => m'.gg b o (k₂ b o (k₁ b o z)), H₅, ?_⟩))
    have eg' : g'.get? e = .none := (m'.old e _ het).trans g₂e
    refine ⟨e, _, _, dx, mx, tk', rfl, eg', H₂.s0_new hm.new, he', rfl, rfl, rfl, hns, hmx, ⟨fun z => dxF (.tail _ z), H₃.s0_new dxs, fun z => ?_⟩, .inl ⟨rfl, rfl⟩⟩
    obtain ⟨o, ho⟩ := H₃.L_there
    rw [← z, dxs] at ho; cases ho
end

section
open PySem PySem.W PySem.Calls PyProof.Rows PySem.SeqAt
variable {c : Cx} {a : Act} {g : Heap} {s : Shared} {σ : Sg}

section
variable {prog : Program} {w : World} {A : Around} {E : Value → Shared → Prop} {h : Heap} {gg : Array GenState} {d : Drawn} {t : Nat} {os : OsState}
variable {nm q : PySem.Str} {C N : Addr} {bs : List Value} {sn : List PySem.Str} {sub : List Value} {ab : Bool} {col : Option Bool} {dd : Option Addr} {k0 k1 k2 k3 k5 : Option Value} {mN : PySem.Str → Option Value}

set_option maxHeartbeats 1000000 in
theorem code_entry {x dx : Addr} {vs : Array Value} {sl : Array (Option Value)} {vi : Int} {vk : Tok} {mA : PySem.Str → Option Value} {tk : Tok} {Q : PySem.Fin → Shared → Prop} (hC : h.get? C = some (excClassObj nm q C N bs excBm true sn sub ab col dd k0 k1 k2 k3 k5 "Exception.__new__")) (hn : h.Ns N mN) (hna : mN "code" = none)
    (hx : h.get? x = some { cls := .ref C, dict := some dx, data := .fields vs, slots := sl }) (hns : h.Ns dx mA) (hv : mA "code" = some (.int vi vk)) (hq : Q (.done (.ret (.int vi vk))) ⟨h, gg, d, t, os⟩) :
    wpAny (model prog w) A (Builtin.«object.__getattribute__» ⟨[.ref x, .str "code" tk], []⟩) Q E ⟨h, gg, d, t, os⟩ := by
  have FB := PySem.F.attrBase_Exception
  repeat (any_goals (first | assumption | (with_reducible refine wpAny_nsGet hns ?_; rw [hv]) | with_reducible refine wpAny_loadPart_at hx ?_ | with_reducible refine wpAny_loadPart_at hC ?_ | (with_reducible refine wpAny_typeLookup_exc hC hn FB.mro no_code ?_; rw [hna]) | wp_step))
set_option maxHeartbeats 1000000 in
theorem check_ga {x : Addr} {o : Obj} {nameV : Value} {M : Model} {Q : Unit → Shared → Prop} (hC : h.get? C = some (excClassObj nm q C N bs excBm true sn sub ab col dd k0 k1 k2 k3 k5 "Exception.__new__")) (hx : h.get? x = some o) (hc : o.cls = .ref C) (hq : Q () ⟨h, gg, d, t, os⟩) :
    wpAny M A (checkBuiltinCall "BaseException.__getattribute__" ⟨[.ref x, nameV], []⟩) Q E ⟨h, gg, d, t, os⟩ := by
  have hk : builtinKind "BaseException.__getattribute__" = some .slot := by decide +kernel
  have hsplit : splitId "BaseException.__getattribute__" = some ("BaseException", "__getattribute__") := by decide +kernel
  have hcB : (Value.ref C :: excBm).contains (.type "BaseException") = true := by simp
  have ha := PySem.F.args_bexc_ga (.ref x) nameV
  simp only [checkBuiltinCall, hk, hsplit]
  refine wpAny_bind ?_
  unfold isInstance
  repeat (first | (with_reducible refine wpAny_loadPart_at hx ?_; rw [hc]) | (with_reducible refine wpAny_isSubtype_exc hC ?_; rw [hcB]) | wp_step)
  exact hq
theorem code_call {sa : String} {x dx : Addr} {vs : Array Value} {sl : Array (Option Value)} {vi : Int} {vk : Tok} {mA : PySem.Str → Option Value} {tk : Tok} {R : Result → Shared → Prop} (hsa : sa = "BaseException.__getattribute__") (hC : h.get? C = some (excClassObj nm q C N bs excBm true sn sub ab col dd k0 k1 k2 k3 k5 "Exception.__new__")) (hn : h.Ns N mN) (hna : mN "code" = none)
    (hx : h.get? x = some { cls := .ref C, dict := some dx, data := .fields vs, slots := sl }) (hns : h.Ns dx mA) (hv : mA "code" = some (.int vi vk)) (hq : R (.ok (.ret (.int vi vk))) ⟨h, gg, d, t, os⟩) :
    codeAny (model prog w) A (.call (.builtin sa) ⟨[.ref x, .str "code" tk], []⟩) R ⟨h, gg, d, t, os⟩ := by
  have hp : plainId sa = true := by rw [hsa]; exact PySem.F.attr_Exception.ga.plain
  have he : entryFor table sa = some Builtin.«object.__getattribute__» := by rw [hsa]; exact PySem.F.entry_bexc_ga
  refine codeAny_call_builtin hp he ?_
  rw [hsa]
  refine check_ga hC hx rfl ?_
  exact code_entry hC hn hna hx hns hv hq
set_option maxHeartbeats 1000000 in
theorem code_by {x dx : Addr} {vs : Array Value} {sl : Array (Option Value)} {vi : Int} {vk : Tok} {mA : PySem.Str → Option Value} {tk : Tok} {fill expr : Bool} {Q : Value → Shared → Prop} (hC : h.get? C = some (excClassObj nm q C N bs excBm true sn sub ab col dd k0 k1 k2 k3 k5 "Exception.__new__")) (hn : h.Ns N mN) (hna : mN "code" = none) (hga : mN "__getattribute__" = none) (hgt : mN "__getattr__" = none)
    (hx : h.get? x = some { cls := .ref C, dict := some dx, data := .fields vs, slots := sl }) (hns : h.Ns dx mA) (hv : mA "code" = some (.int vi vk)) (hq : Q (.int vi vk) ⟨h, gg, d, t, os⟩) :
    wpAny (model prog w) A (getAttrBy (.ref x) (.str "code" tk) fill expr) Q E ⟨h, gg, d, t, os⟩ := by
  have FB := PySem.F.attrBase_Exception
  have f3 := FB.ga.bind (.ref x)
  have hx0 : (expr && onTheHeap (Value.builtin "BaseException.__getattribute__")) = false := by cases expr <;> rfl
  have hx2 : (Value.builtin "BaseException.__getattribute__" == Value.builtin "object.__getattribute__") = false := by decide +kernel
  have hx1 : (onTheHeap (Value.ref C) && Value.builtin "BaseException.__getattribute__" == Value.builtin "object.__getattribute__") = false := by rw [hx2]; rfl
  repeat (any_goals (first | assumption | with_reducible refine wpAny_loadPart_at hx ?_ | (with_reducible refine wpAny_typeLookup_exc hC hn FB.mro FB.ga.lookup ?_; rw [hga]) | (with_reducible refine wpAny_typeLookup_exc hC hn FB.mro FB.noGetattr ?_; rw [hgt]) | wp_step))
  refine code_call rfl hC hn hna hx hns hv ?_
  repeat (any_goals (first | assumption | wp_step))
set_option maxHeartbeats 1000000 in
theorem code_attr {x dx : Addr} {vs : Array Value} {sl : Array (Option Value)} {vi : Int} {vk : Tok} {mA : PySem.Str → Option Value} {expr : Bool} {Q : Value → Shared → Prop} (hC : h.get? C = some (excClassObj nm q C N bs excBm true sn sub ab col dd k0 k1 k2 k3 k5 "Exception.__new__")) (hn : h.Ns N mN) (hna : mN "code" = none) (hga : mN "__getattribute__" = none) (hgt : mN "__getattr__" = none)
    (hx : h.get? x = some { cls := .ref C, dict := some dx, data := .fields vs, slots := sl }) (hns : h.Ns dx mA) (hv : mA "code" = some (.int vi vk)) (hq : Q (.int vi vk) ⟨h, gg, d, t + 1, os⟩) :
    wpAny (model prog w) A (getAttr (.ref x) "code" expr) Q E ⟨h, gg, d, t, os⟩ := by
  unfold getAttr
  repeat (any_goals (first | assumption | with_reducible apply code_by hC hn hna hga hgt hx hns hv | wp_step))
end
end

section
open PySem PySem.W PySem.Calls PyProof.Rows PySem.SeqAt
variable {c : Cx} {a : Act} {g : Heap} {s : Shared} {σ : Sg}

theorem St.relocal (H : St c a g s σ) {m' : PySem.Str → Option Value} {h' : Heap} {k : Nat} (hn' : h'.Ns a.env.locals m') (hs : Heap.SameBut a.env.locals s.heap h') : St c a g { s with heap := h', toks := k } ⟨[], σ.own⟩ := by
  obtain ⟨l, hl, hF, hfr⟩ := H.fr
  have ex : ∃ o, h'.get? a.env.locals = some o := let ⟨o, _, _, e, _⟩ := hn'; ⟨o, e⟩
  refine ⟨H.ok, H.mv.touch hs (.inl H.newL) H.nl ex, ⟨l, hl, hF, ?_⟩, ⟨_, hn'⟩, H.nl, H.nb, H.newL, H.newC, ?_, H.cellsF, H.cellsA, fun x d hx => (by cases hx), ?_, H.ownL⟩
  · intro env he
    obtain ⟨hk, L, mm, hf, hg, hN⟩ := hfr env he
    by_cases hL : L = a.env.locals
    · subst hL; exact ⟨hk, _, _, hf, hg, hn'⟩
    · exact ⟨hk, L, mm, hf, hg, hN.sameBut hs hL⟩
  · intro y b hb
    obtain ⟨h1, h2, w, h3⟩ := H.cells y b hb
    exact ⟨h1, h2, w, h3.sameBut hs (H.cellsF y b hb).2⟩
  · exact ⟨fun p hp => (H.own.at_ p hp).move (fun _ _ e => e) fun o e => (hs.2 _ (H.ownL p hp).1).trans e, H.own.out, H.own.apart⟩

set_option maxHeartbeats 1000000 in
theorem Ex.tryCode {fI : Addr} {fd : FuncData} {body : List Stmt} (R : ErrCls c fI fd body) {be : Expr} {nmE : PySem.Str} {rp p1 p2 p3 p4 p5 p6 p7 p8 : Pos} {k1 k2 : Nat} {o : Out (D × Own)} (h : Ev c a σ be o) (hg : c.mg nmE = some (.ref c.C)) (hkE : a.env.kindOf nmE = some .globalImplicit) (hke : a.env.kindOf "e" = some .local)
    (hd : (nmE == ("__debug__" : PySem.Str)) = false := by decide) :
    Ex c a σ (.Try [.Return (some be) rp] [.ExceptHandler (some (.Name nmE p1)) (some "e") [.Return (some (.Tuple [.Constant (.str "refused") k1 p2, .Attribute (.Name "e" p3) "code" p4] k2 p5)) p6] p7] [] [] p8)
      (match o with | .ok (d, ω) => .ok (.ret d ω) | .err => .ok (.ret (.tup [.str "refused", .int 270]) [])) := .mk fun g s H => by
  rw [arm_exec_Try]
  refine wpAny_bind (wpAny_standAt (wpAny_tryStmt_except ?_))
  cases o with
  | ok r =>
    obtain ⟨d, ω⟩ := r
    refine wpAny_mono ((Exs.ret (rest := []) (Ex.ret (pos := rp) h)).run g s H) (fun f s₁ h₁ => ?_) fun _ _ e => (nomatch e.1)
    cases f with
    | next => obtain ⟨_, q, _⟩ := h₁; cases q
    | ret v => exact h₁
    | _ => exact h₁.elim
  | err =>
    refine wpAny_mono ((Exs.err (rest := []) (Ex.retErr (pos := rp) h)).run g s H) (fun f s₁ h₁ => ?_) fun x s₁ he => ?_
    · cases f with
      | next => obtain ⟨_, q, _⟩ := h₁; cases q
      | ret v => obtain ⟨_, _, q, _⟩ := h₁; cases q
      | _ => exact h₁.elim
    obtain ⟨_, g₁, σ₁, k₁, H₁, f₁⟩ := he
    refine note_ok H₁ f₁ fun h₂ H₂ f₂ => flight_ok H₂ f₂ _ fun h₃ H₃ f₃ => ?_
    obtain ⟨e, oe, vs, dx, mx, tk, rfl, x2, x3, x4, x5, x6, x7, x8, x9, x10, x11⟩ := id f₃.ex
    obtain ⟨nm, q, N, bs, sn, sub, ab, col, dd, k0, k1', k2', k3, k5, mN, hC, hN, hi, hsa, hco, htx, hga, hgt⟩ := R.cls g₁ H₃.wd
    have hfn := H.ok.fn
    have ms : ∀ A' : Around, wpAny c.M A' (eval (.Name nmE p1) a.env) (fun v s' => v = .ref c.C ∧ s' = { s₁ with heap := h₃ }) (fun _ _ => False) { s₁ with heap := h₃ } := fun A' => by
      refine wpAny_Name ?_ hd
      rw [loadName_read hfn hkE]
      exact loadGlobal_at H.ok.globals ((c.glob H₃.wd).keeps H₃.stays) hg ⟨rfl, rfl⟩
    obtain ⟨s₁h, gg, dr, tks, os⟩ := s₁
    refine wpAny_handleBy_cons (codeAny_handlers_test (wpAny_mono (ms _) (fun v s' hv => ?_) fun _ _ z => z.elim)) (by intro z; cases z)
    obtain ⟨rfl, rfl⟩ := hv
    obtain ⟨oc, od, oda, osl⟩ := oe
    dsimp only at x5 x6 x7
    subst x5 x6 x7
    refine wpAny_excMatches_sub_self (H₃.stays _ _ hC) x4 rfl rfl ?_
    dsimp only [if_true]
    refine codeAny_handlers_suite_as ?_
    refine flight_ok H₃ f₃ _ fun h₄ H₄ f₄ => ?_
    obtain ⟨e', oe, vs', dx', mx', tk', z1, y2, y3, y4, y5, y6, y7, y8, y9, y10, y11⟩ := id f₄.ex
    cases z1
    obtain ⟨oc, od, oda, osl'⟩ := oe
    dsimp only at y5 y6 y7
    subst y5 y6 y7
    obtain ⟨m, hn⟩ := H₄.ns
    have eL : e ≠ a.env.locals := fun z => by
      obtain ⟨oo, es, ep, ho, hdd, _⟩ := hn
      rw [← z, y4] at ho; cases ho; cases hdd
    have hp : (a.env.scope.kind == .class || (a.env.scope.kind == .module && a.env.locals != a.env.globals)) = false := by rw [hfn]; rfl
    refine wpAny_storeName_local hke hn (fun h₅ hn₅ hs₅ => ?_) hp
    have H₅ := H₄.relocal (k := tks + 1 + 1 + 1) hn₅ hs₅
    have e₅ : h₅.get? e = some { cls := .ref c.C, dict := some dx', data := .fields vs', slots := osl' } := (hs₅.2 e eL).trans y4
    have d₅ : h₅.Ns dx' mx' := y8.sameBut hs₅ y10.2.2
    refine wpAny_execs_cons (wpAny_Return_some (Tuple_ ?_))
    show wpAny c.M _ (spliced [(false, eval (.Constant (.str "refused") k1 p2) a.env), (false, eval (.Attribute (.Name "e" p3) "code" p4) a.env)]) _ _ _
    refine spliced_cons (wpAny_Constant_str (spliced_cons (Attribute_name (wpAny_Name (wpAny_loadName_local hfn hke hn₅ (v := .ref e) (by simp) ?_) (by decide)))))
    refine code_attr (H₅.stays _ _ hC) (hN.keeps H₅.stays) hco hga hgt e₅ d₅ y9 (spliced_nil ?_)
    unfold newTuple
    refine wpAny_newObj_type ?_ (by show ([_, _] : List Value).toArray.size ≤ sizeLine; rw [sizeLine_eq]; simp)
    have H₅' := H₄.relocal (k := tks + 1 + 1 + 1) hn₅ hs₅
    obtain ⟨mv, et⟩ := mv_new (F := a.F) (o := { cls := .type "tuple", data := .seq ([Value.str "refused" (tks + 1), Value.int 270 tk'] : List Value).toArray }) H₅'.stays rfl
    have H₆ := H₅'.move mv
    refine wpAny_nameGoes hke (hn₅.at' fun oo z => Heap.get?_push_of_some _ z) hp fun h₇ m₇ hn₇ hs₇ => ?_
    exact ⟨_, _, rfl, _, [], fun b oo z => mv.gg b oo (k₁ b oo z), H₆.relocal hn₇ hs₇, .tup ⟨_, et, rfl, 0, rfl⟩ (.cons (.str _ _) (.cons (.int _ _) .nil))⟩
end

section
open PySem PySem.W PySem.Calls PyProof.Rows PySem.SeqAt
variable {c : Cx} {a : Act} {g : Heap} {s : Shared} {σ : Sg}

/-! a ≤ b ≤ c -/
theorem Ev.chain {l r₁ r₂ : Expr} {op₁ op₂ : CmpOp} {pos : Pos} {x y z : D} {b b' : Bool} (h1 : Ev c a σ l (.ok (x, σ.own))) (h2 : Ev c a σ r₁ (.ok (y, σ.own))) (h3 : Ev c a σ r₂ (.ok (z, σ.own)))
    (h4 : Bin c a σ (compareOp op₁) x y (.bool b)) (h5 : Bin c a σ (compareOp op₂) y z (.bool b')) (hm : lastMarks [op₁, op₂] [r₁, r₂] = false := by with_unfolding_all rfl) :
    Ev c a σ (.Compare l [op₁, op₂] [r₁, r₂] pos) (.ok (.bool (b && b'), σ.own)) := .mk fun g s H => by
  refine Compare_chain (h1.then H (fun v s₁ g₁ k₁ H₁ q₁ => ?_)) hm
  refine chain_link (h2.then H₁ (fun w s₂ g₂ k₂ H₂ q₂ => ?_))
  refine wpAny_mono (h4.run g₂ s₂ v w H₂ (q₁.up k₂) q₂) (fun u s₃ h => ?_) fun _ _ e => e.elim
  obtain ⟨g₃, m₃, q₃⟩ := h
  cases q₃
  have H₃ := H₂.move m₃
  refine wpAny_truthy_bool ?_
  cases b with
  | false => exact ⟨_, _, rfl, g₃, fun b o e => m₃.gg b o (k₂ b o (k₁ b o e)), H₃, .bool _⟩
  | true =>
    refine chain_last (h3.then H₃ (fun w' s₄ g₄ k₄ H₄ q₄ => ?_))
    refine wpAny_mono (h5.run g₄ s₄ w w' H₄ ((q₂.up m₃.gg).up k₄) q₄) (fun u s₅ h => ?_) fun _ _ e => e.elim
    obtain ⟨g₅, m₅, q₅⟩ := h
    exact ⟨_, _, rfl, g₅, fun b o e => m₅.gg b o (k₄ b o (m₃.gg b o (k₂ b o (k₁ b o e)))), H₄.move m₅, by simpa using q₅⟩
theorem Tr.chain {l r₁ r₂ : Expr} {op₁ op₂ : CmpOp} {pos : Pos} {x y z : D} {b b' : Bool} (h1 : Ev c a σ l (.ok (x, σ.own))) (h2 : Ev c a σ r₁ (.ok (y, σ.own))) (h3 : Ev c a σ r₂ (.ok (z, σ.own)))
    (h4 : Bin c a σ (compareOp op₁) x y (.bool b)) (h5 : Bin c a σ (compareOp op₂) y z (.bool b')) (hm : lastMarks [op₁, op₂] [r₁, r₂] = false := by with_unfolding_all rfl) :
    Tr c a σ (.Compare l [op₁, op₂] [r₁, r₂] pos) (.ok (b && b', σ.own)) := .mk fun g s H => by
  refine isTrue_chain (h1.then H (fun v s₁ g₁ k₁ H₁ q₁ => ?_)) hm
  refine test_link (h2.then H₁ (fun w s₂ g₂ k₂ H₂ q₂ => ?_))
  refine wpAny_mono (h4.run g₂ s₂ v w H₂ (q₁.up k₂) q₂) (fun u s₃ h => ?_) fun _ _ e => e.elim
  obtain ⟨g₃, m₃, q₃⟩ := h
  cases q₃
  have H₃ := H₂.move m₃
  refine wpAny_truthy_bool ?_
  cases b with
  | false => exact ⟨_, rfl, g₃, fun b o e => m₃.gg b o (k₂ b o (k₁ b o e)), H₃⟩
  | true =>
    refine test_last (h3.then H₃ (fun w' s₄ g₄ k₄ H₄ q₄ => ?_))
    refine wpAny_mono (h5.run g₄ s₄ w w' H₄ ((q₂.up m₃.gg).up k₄) q₄) (fun u s₅ h => ?_) fun _ _ e => e.elim
    obtain ⟨g₅, m₅, q₅⟩ := h
    cases q₅
    exact wpAny_truthy_bool ⟨_, by simp, g₅, fun b o e => m₅.gg b o (k₄ b o (m₃.gg b o (k₂ b o (k₁ b o e)))), H₄.move m₅⟩

/-! methods -/
theorem Ev.get2 {oe e1 e2 : Expr} {apos pos : Pos} {l : List (List UInt8 × D)} {k : List UInt8} {d : D} (h1 : Ev c a σ oe (.ok (.dct l, σ.own))) (h2 : EvAll c a σ pos [e1, e2] (.ok ([.bytes k, d], σ.own)))
    (hbase : attributeBase oe "get" a.env (eval oe a.env) = eval oe a.env := by rfl) (he : starEach [e1, e2] a.env = (false, eval e1 a.env) :: starEach [e2] a.env := by rfl) (hplain : (backTo pos (starEach [e2] a.env)).any (·.1) = false := by rfl)
    (hfew : ((backTo pos (starEach [e1, e2] a.env)).all (fun x => !x.1) && (backToKw pos (keywordEach [] a.env)).all (fun x => x.1.isSome)
      && decide (([e1, e2] : List Expr).length + ([] : List Keyword).length + (if ([] : List Keyword).isEmpty then 0 else 1) < 30)) = true := by rfl) (hline : (apos.endLine == pos.line) = true := by rfl) :
    Ev c a σ (.Call (.Attribute oe "get" apos) [e1, e2] [] pos) (.ok ((l.lookup k).getD d, σ.own)) :=
  .meth (T := "dict") (id := "dict.get") h1 h2 PySem.F.plainAttrs_dict PySem.F.slot_dict_get PySem.F.type_dict_get (fun g s v H hv => by
    · obtain ⟨_, _, rfl, h, r, n⟩ := hv.inv
      have h' := h.keep H.stays
      refine ⟨h'.typeIs, fun b e => ?_⟩
      cases e
      obtain ⟨o, es, ep, ho, hc, _⟩ := h'
      exact ⟨o, ho, hc.2.1⟩) (fun g s v vs H hv hvs => by
    obtain ⟨_, _, rfl, hk, hr⟩ := hvs.inv
    obtain ⟨_, _, rfl, hd, hr⟩ := hr.inv
    obtain rfl := hr.inv
    obtain ⟨_, rfl⟩ := hk.inv
    · obtain ⟨_, _, rfl, h, r, n⟩ := hv.inv
      have h' := h.keep H.stays
      refine call_meetsIn PySem.F.slot_dict_get h'.typeIs PySem.F.entry_dict_get (PySem.F.args_dict_get_3 _ _ _) (meets_dict_get_default (bytesKind c.prog c.w) _ (key_is k _) n _) ⟨_, h'.mapOf, ?_⟩
      have hat := r.at k
      refine ⟨_, _, rfl, g, fun _ _ e => e, H.toks _, ?_⟩
      cases q : l.lookup k with
      | none => rw [q] at hat; rw [hat]; exact hd
      | some e => rw [q] at hat; obtain ⟨v, hv, hrd⟩ := hat; rw [hv]; exact hrd) hbase he hplain hfew hline

theorem Ev.append {x : PySem.Str} {xp apos pos : Pos} {e1 : Expr} {p : Addr} {l : List D} {d : D} {ω : Own} (h1 : Ev c a σ (.Name x xp) (.ok (.adr p, σ.own))) (h2 : EvAll c a σ pos [e1] (.ok ([d], ω))) (hp0 : σ.own.lookup p = some (.lst l)) (hp : ω.lookup p = some (.lst l)) (hz : l.length ≤ 1000)
    (he : starEach [e1] a.env = (false, eval e1 a.env) :: starEach [] a.env := by rfl) (hplain : (backTo pos (starEach [] a.env)).any (·.1) = false := by rfl)
    (hfew : ((backTo pos (starEach [e1] a.env)).all (fun x => !x.1) && (backToKw pos (keywordEach [] a.env)).all (fun x => x.1.isSome)
      && decide (([e1] : List Expr).length + ([] : List Keyword).length + (if ([] : List Keyword).isEmpty then 0 else 1) < 30)) = true := by rfl) (hline : (apos.endLine == pos.line) = true := by rfl) :
    Ev c a σ (.Call (.Attribute (.Name x xp) "append" apos) [e1] [] pos) (.ok (.none, setOwn ω p (.lst (l ++ [d])))) :=
  .meth (T := "list") (id := "list.append") h1 h2 PySem.F.plainAttrs_list slot_list_append PySem.F.type_list_append (fun g s v H hv => by
    obtain rfl := hv.inv
    · obtain ⟨_, ⟨n, e⟩, r⟩ := (H.owned hp0).inv
      exact ⟨⟨_, e, rfl⟩, fun b q => by cases q; exact ⟨_, e, rfl⟩⟩) (fun g s v vs H hv hvs => by
    obtain ⟨_, _, rfl, hd, hr⟩ := hvs.inv
    obtain rfl := hr.inv
    obtain rfl := hv.inv
    · obtain ⟨ws, h, r⟩ := (H.owned hp).inv
      have hlen := r.length
      refine wpAny_list_append_plain h (fun h' hl' hs' => ?_) (by rw [sizeLine_eq]; simp only [List.size_toArray]; omega)
      exact ⟨_, _, rfl, g, fun _ _ e => e, H.set (k := s.toks) hp (fun b o hb e => hs'.extBut b o hb e) (.lst (vs := ws ++ [_]) (by simpa using hl') (r.snoc hd)), .none⟩) (by rfl) he hplain hfew hline

/-! more that may be walked -/
theorem RdKv.get {kvs : List (List UInt8 × Value)} {ds : List (List UInt8 × D)} (r : RdKv c g kvs ds) : kvs.map (·.1) = ds.map (·.1) := by
  induction ds generalizing kvs with
  | nil => obtain rfl := r.inv; rfl
  | cons p ds ih => obtain ⟨v, w, rfl, h, r⟩ := r.inv; rw [List.map_cons, List.map_cons, ih r]
theorem bytes_key {k : List UInt8} {v : Value} (h : (bytesKind c.prog c.w).is k v = true) : ∃ t, v = .bytes k.toArray t := by
  cases v <;> first | (simp [bytesKind, isBytes] at h; done) | skip
  rename_i b t
  simp [bytesKind, isBytes] at h
  exact ⟨t, by subst h; simp⟩
theorem Iterable.dct (l : List (List UInt8 × D)) : Iterable c (.dct l) (l.map fun p => .bytes p.1) := .mk fun a g s σ v Q E H hv hQ => by
  · obtain ⟨ax, kvs, rfl, h, r, n⟩ := hv.inv
    obtain ⟨ep, hg⟩ := h.dictAt
    have hl : s.heap.DictAt (bytesKind c.prog c.w) ax kvs ep := let ⟨o, es, e, q⟩ := hg; ⟨o, es, H.stays _ _ e, q⟩
    refine wpAny_pyIter_dict n hl (hQ _ (fun i h => h.IsKeyIter s.heap.objs.size ax i kvs.length ep ∧ h.DictAt (bytesKind c.prog c.w) ax kvs ep) s.toks rfl ?_ ⟨⟨_, Heap.get?_push_size _ rfl, rfl, rfl⟩, hl.push _⟩)
    have hne : ax ≠ s.heap.objs.size := Nat.ne_of_lt hl.lt_size
    refine Iter.ofWalks (fun A hh => Walks.dictKeys hh s.heap.objs.size ax hne kvs ep) (by simp [r.length]) (fun i h st => ?_) (fun i h h' st e k => ⟨st.1.at e, let ⟨o, es, e, q⟩ := hg; ⟨o, es, k _ _ e, q⟩⟩) fun i v d p hd => ?_
    · obtain ⟨o, e, hc, hd⟩ := st.1; exact ⟨o, _, _, e, hc, hd, by decide⟩
    · obtain ⟨k, x, hx, hk⟩ := p
      obtain ⟨t, rfl⟩ := bytes_key hk
      have e1 : (kvs.map (·.1))[i]? = some k := by rw [List.getElem?_map, hx]; rfl
      rw [r.get, List.getElem?_map] at e1
      rw [List.getElem?_map] at hd
      cases q : l[i]? with
      | none => rw [q] at hd; cases hd
      | some pr => rw [q] at hd e1; cases hd; cases e1; exact .bytes _ _

theorem small_range (n : Nat) (h : n ≤ 1000) : Builtin.Range.small 0 n 1 = true ∧ Builtin.Range.rangeSize 0 n 1 = n := by
  have e : ∀ m : Nat, m ≤ 1000 → (Builtin.Range.small 0 m 1 && Builtin.Range.rangeSize 0 m 1 == (m : Int)) = true := by
    have : (List.range 1001).all (fun m => Builtin.Range.small 0 (m : Nat) 1 && Builtin.Range.rangeSize 0 (m : Nat) 1 == ((m : Nat) : Int)) = true := by decide +kernel
    intro m hm
    exact List.all_eq_true.mp this m (List.mem_range.mpr (by omega))
  have := e n h
  rw [Bool.and_eq_true] at this
  exact ⟨this.1, eq_of_beq this.2⟩
theorem Iterable.rng (n : Nat) (hz : n ≤ 1000) : Iterable c (.rng n) ((List.range n).map fun i : Nat => D.int (i : Int)) := .mk fun a g s σ v Q E H hv hQ => by
  · obtain ⟨ax, t, u, v, rfl, h⟩ := hv.inv
    obtain ⟨e1, e2⟩ := small_range n hz
    refine wpAny_pyIter_range (H.stays _ _ h) e1 ?_
    rw [e2]
    refine hQ _ (fun i h => IsRangeIter h s.heap.objs.size (0 + (i : Nat) * 1) ((n : Int) - (i : Nat)) 1) s.toks rfl ?_ ?_
    · refine Iter.ofWalks (fun A hh => Walks.range hh s.heap.objs.size 0 1 n) (by simp) (fun i h st => ⟨_, _, _, st, rfl, rfl, by decide⟩) (fun i h h' st e k => e _ st) fun i v d p hd => ?_
      · obtain ⟨t, rfl⟩ := p
        rw [List.getElem?_map] at hd
        cases q : (List.range n)[i]? with
        | none => rw [q] at hd; cases hd
        | some j =>
          rw [q] at hd; cases hd
          have : j = i := by have := List.getElem?_eq_some_iff.mp q; obtain ⟨_, e⟩ := this; simpa using e.symm
          subst this
          rw [show (0 : Int) + j * 1 = j from by omega]; exact .int _ _
    · show (s.heap.push _).get? _ = _
      rw [Heap.get?_push_size _ rfl]; simp
theorem CallOk.range (n : Nat) (hz : n ≤ 1000) : CallOk c a σ (.typ "range") [.int n] (.ok (.rng n, σ.own)) := .of fun g s v vs H hv hvs => by
  obtain rfl := hv.inv
  · obtain ⟨_, _, rfl, h, r⟩ := hvs.inv
    obtain rfl := r.inv; obtain ⟨_, rfl⟩ := h.inv
    obtain ⟨L, m, hL, hg, hn⟩ := H.off
    refine range1_rows (kFr hn) (restNews s.heap L) fun h' tk t₁ u₁ v₁ hr F' N' _ => ?_
    have m' := mv_of_K (ext := []) (k := tk) H.stays hL hg hn F' N' [s.heap.objs.size] (by simp [new_at_size])
    exact ⟨_, m', .rng (addTo_new hr (by simp))⟩
end

section
open PySem PySem.W PySem.Calls PyProof.Rows PySem.SeqAt
variable {c : Cx} {a : Act} {g : Heap} {s : Shared} {σ : Sg}

/-! rows of truths, put together -/
theorem EvL.or {pos : Pos} {e e2 : Expr} {es : List Expr} {b b' : Bool} (h : Ev c a σ e (.ok (.bool b, σ.own))) (h2 : b = false → EvL c a σ pos .Or (e2 :: es) (.ok (.bool b', σ.own))) : EvL c a σ pos .Or (e :: e2 :: es) (.ok (.bool (b || b'), σ.own)) := by
  cases b with
  | true => exact .stop h (.inr ⟨rfl, rfl⟩)
  | false => exact .go h (.inr ⟨rfl, rfl⟩) (h2 rfl)
theorem EvL.and {pos : Pos} {e e2 : Expr} {es : List Expr} {b b' : Bool} (h : Ev c a σ e (.ok (.bool b, σ.own))) (h2 : b = true → EvL c a σ pos .And (e2 :: es) (.ok (.bool b', σ.own))) : EvL c a σ pos .And (e :: e2 :: es) (.ok (.bool (b && b'), σ.own)) := by
  cases b with
  | false => exact .stop h (.inl ⟨rfl, rfl⟩)
  | true => exact .go h (.inl ⟨rfl, rfl⟩) (h2 rfl)
theorem TrL.or {e : Expr} {es : List Expr} {b b' : Bool} (h : Tr c a σ e (.ok (b, σ.own))) (h2 : b = false → TrL c a σ .Or es (.ok (b', σ.own))) : TrL c a σ .Or (e :: es) (.ok (b || b', σ.own)) := by
  cases b with
  | true => exact .stop h (.inr ⟨rfl, rfl⟩)
  | false => exact .go h (.inr ⟨rfl, rfl⟩) (h2 rfl)
theorem TrL.and {e : Expr} {es : List Expr} {b b' : Bool} (h : Tr c a σ e (.ok (b, σ.own))) (h2 : b = true → TrL c a σ .And es (.ok (b', σ.own))) : TrL c a σ .And (e :: es) (.ok (b && b', σ.own)) := by
  cases b with
  | false => exact .stop h (.inl ⟨rfl, rfl⟩)
  | true => exact .go h (.inl ⟨rfl, rfl⟩) (h2 rfl)
theorem TrL.orN : TrL c a σ .Or [] (.ok (false, σ.own)) := .nil
theorem TrL.andN : TrL c a σ .And [] (.ok (true, σ.own)) := .nil
theorem Ev.ite {test body orelse : Expr} {pos : Pos} {b : Bool} {d d' : D} (h : Tr c a σ test (.ok (b, σ.own))) (hT : b = true → Ev c a σ body (.ok (d, σ.own))) (hF : b = false → Ev c a σ orelse (.ok (d', σ.own))) :
    Ev c a σ (.IfExp test body orelse pos) (.ok (if b then d else d', σ.own)) := by
  cases b with
  | true => exact .ifT h (hT rfl)
  | false => exact .ifF h (hF rfl)
theorem Ev.cast {e : Expr} {d d' : D} {ω ω' : Own} (h : Ev c a σ e (.ok (d, ω))) (q : d = d') (q' : ω = ω' := by rfl) : Ev c a σ e (.ok (d', ω')) := by subst q q'; exact h
theorem Tr.cast {e : Expr} {b b' : Bool} {ω ω' : Own} (h : Tr c a σ e (.ok (b, ω))) (q : b = b') (q' : ω = ω' := by rfl) : Tr c a σ e (.ok (b', ω')) := by subst q q'; exact h

/-! calls and comprehensions that leave what is owned -/
theorem call_pure {f : FuncData} {names : List PySem.Str} {body : List Stmt} (hf : FnData c f names body) {n : Nat} {ds : List D} {r : Out D} (hlen : ds.length = names.length) (hn : n + 1 ≤ a.n)
    (hb : ∀ A m L fa F g0 s0, n ≤ m → Body c (actOf f A m L fa F g0 s0 []) ⟨names.zip ds, []⟩ body r []) : CallOk c a σ (.fn f) ds (r.with σ.own) := .mk fun g s v vs H hv hvs =>
  (call_fn hf (ωi := []) (ωo := []) hlen hn (fun p hp => by cases hp) (by simp) (fun p hp => .inl ⟨hp, by simp⟩) H.own.apart hb).run g s v vs H hv hvs

theorem setOwn_mem {ω : Own} {p : Addr} {d0 d : D} (h : ω.lookup p = some d0) (nd : (ω.map (·.1)).Nodup) : (∀ q ∈ setOwn ω p d, (q ∈ ω ∧ q.1 ≠ p) ∨ q = (p, d)) ∧ ((setOwn ω p d).map (·.1)).Nodup := by
  obtain ⟨ω₁, ω₂, e, e2, _⟩ := own_split h
  rw [e2 d]
  subst e
  refine ⟨fun q hq => ?_, mid_again nd⟩
  rcases List.mem_append.mp hq with hq | hq
  · exact .inl ⟨List.mem_append_left _ hq, mid_ne nd q (List.mem_append_left _ hq)⟩
  · rcases List.mem_cons.mp hq with rfl | hq
    · exact .inr rfl
    · exact .inl ⟨List.mem_append_right _ (.tail _ hq), mid_ne nd q (List.mem_append_right _ hq)⟩
/-- a call that is given the box -/
theorem call_box {f : FuncData} {names : List PySem.Str} {body : List Stmt} (hf : FnData c f names body) {n : Nat} {ds : List D} {r : Out D} {p : Addr} {b0 b1 : D} (hlen : ds.length = names.length) (hn : n + 1 ≤ a.n) (hp : σ.own.lookup p = some b0)
    (hb : ∀ A m L fa F g0 s0, n ≤ m → Body c (actOf f A m L fa F g0 s0 [p]) ⟨names.zip ds, [(p, b0)]⟩ body r [(p, b1)]) : CallOk c a σ (.fn f) ds (r.with (setOwn σ.own p b1)) := .mk fun g s v vs H hv hvs => by
  obtain ⟨h1, h2⟩ := setOwn_mem (d := b1) hp H.own.apart
  refine (call_fn hf (ωi := [(p, b0)]) (ωo := [(p, b1)]) hlen hn (fun q hq => ?_) (by simp) (fun q hq => ?_) h2 hb).run g s v vs H hv hvs
  · rw [List.mem_singleton.mp hq]; exact mem_of_lookup' hp
  · rcases h1 q hq with ⟨x, y⟩ | rfl
    · exact .inl ⟨x, by simpa using y⟩
    · exact .inr ⟨by simp, by simp⟩

theorem Ev.compP {elt target iter : Expr} {ifs : List Expr} {scope : Scope} {pos : Pos} {cl : List (PySem.Str × Addr)} {lc : List (PySem.Str × D)} {d : D} {ds : List D} {o : Out (List D × Own)}
    (h : Ev c a σ iter (.ok (d, σ.own))) (hit : Iterable c d ds) (cg : Caught a σ.loc scope cl lc) (hz : ds.length ≤ 1000)
    (t : ∀ C g0 s0, CTurns c (compAct a scope cl C g0 s0 []) lc target ifs elt [] ds o)
    (hs : ∀ x, foldedSetIterable iter a.env x = pure x := by intro _; rfl) : Ev c a σ (.ListComp elt [⟨target, iter, ifs, 0⟩] scope pos) (compOut o σ.own) := .mk fun g s H =>
  (Ev.comp h hit cg (ωi := []) (fun p hp => by cases hp) (by simp) hz t (fun p hp => .inl ⟨hp, by simp⟩) H.own.apart hs).run g s H
theorem Ex.assignCompP {x : PySem.Str} {pos' : Pos} {elt target iter : Expr} {ifs : List Expr} {scope : Scope} {pos spos : Pos} {cl : List (PySem.Str × Addr)} {lc : List (PySem.Str × D)} {d : D} {ds es : List D} {ωo : Own}
    (h : Ev c a σ iter (.ok (d, σ.own))) (hit : Iterable c d ds) (cg : Caught a σ.loc scope cl lc) (hz : ds.length ≤ 1000)
    (t : ∀ C g0 s0, CTurns c (compAct a scope cl C g0 s0 []) lc target ifs elt [] ds (.ok (es, ωo))) (hx : Stores a x)
    (hsw : swapsWith (.ListComp elt [⟨target, iter, ifs, 0⟩] scope pos) (some (.Name x pos')) spos.line a.env = pure true := by rfl)
    (hs : ∀ x, foldedSetIterable iter a.env x = pure x := by intro _; rfl) : Ex c a σ (.Assign [.Name x pos'] (.ListComp elt [⟨target, iter, ifs, 0⟩] scope pos) spos) (.ok (.next ⟨(x, .lst es) :: σ.loc, σ.own⟩)) := .mk fun g s H =>
  (Ex.assignComp h hit cg (ωi := []) (o := .ok (es, ωo)) (fun p hp => by cases hp) (by simp) hz t (fun p hp => .inl ⟨hp, by simp⟩) H.own.apart hx hsw hs).run g s H
end

section
open PySem PySem.W PySem.Calls PyProof.Rows PySem.SeqAt
variable {c : Cx} {a : Act} {g : Heap} {s : Shared} {σ : Sg}

theorem Caught.none {l : List (PySem.Str × D)} {scope : Scope} (h : closureFor scope a.env = pure []) (h1 : scope.names.all (fun x => x.2 != .cell) = true) (h2 : scope.kind = .function) (h3 : scope.names.all (fun x => x.2 != .local || scope.names.lookup x.1 == some .local) = true) : Caught a l scope [] [] :=
  ⟨h, fun x b hx => (by cases hx), fun x d hx => (by cases hx), fun x hx q => (by have := List.all_eq_true.mp h1 x hx; rw [q] at this; cases this), h2, fun x hx q => by
    have := List.all_eq_true.mp h3 x hx
    rw [q] at this
    simpa using this⟩

theorem CTurns.over {α : Type} {b : Act} {lc : List (PySem.Str × D)} {target : Expr} {ifs : List Expr} {elt : Expr} (f : α → D) (l₁ : α → List (PySem.Str × D)) (P : α → Bool) (el : α → D) : ∀ (xs : List α),
    (∀ x ∈ xs, ∀ ζ, As c b ⟨lc, ζ⟩ target (f x) ⟨l₁ x, ζ⟩) → (∀ x ∈ xs, ∀ y e, lc.lookup y = some e → (l₁ x).lookup y = some e) → (∀ x ∈ xs, ∀ ζ, Tst c b ⟨l₁ x, ζ⟩ ifs (.ok (P x, ζ))) → (∀ x ∈ xs, P x = true → ∀ ζ, Ev c b ⟨l₁ x, ζ⟩ elt (.ok (el x, ζ))) →
    CTurns c b lc target ifs elt [] (xs.map f) (.ok ((xs.filter P).map el, []))
  | [], _, _, _, _ => .nil
  | x :: xs, h1, h2, h3, h4 => by
    have ih := CTurns.over f l₁ P el xs (fun y hy => h1 y (.tail _ hy)) (fun y hy => h2 y (.tail _ hy)) (fun y hy => h3 y (.tail _ hy)) (fun y hy => h4 y (.tail _ hy))
    have h3' := h3 x (.head _)
    cases hP : P x with
    | false =>
      rw [List.filter_cons_of_neg (by simp [hP])]
      rw [hP] at h3'
      exact .skip (ω := []) (ω₁ := []) (h1 x (.head _)) (h2 x (.head _)) h3' ih
    | true =>
      rw [List.filter_cons_of_pos hP]
      rw [hP] at h3'
      exact .take (ω := []) (ω₁ := []) (ω₂ := []) (h1 x (.head _)) (h2 x (.head _)) h3' (h4 x (.head _) hP) ih

theorem EqD.nil (l : List D) : EqD 8 (.lst l) (.lst []) l.isEmpty := by
  cases l with
  | nil => exact .lst .nil
  | cons d l => exact .lst (.left _ _)
/-- e != [] -/
theorem Tr.neNil {e : Expr} {p1 p2 : Pos} {l : List D} (h : Ev c a σ e (.ok (.lst l, σ.own))) : Tr c a σ (.Compare e [.NotEq] [.List [] p1] p2) (.ok (!l.isEmpty, σ.own)) := .cmp h (.list .nil) (.ne (EqD.nil l))
theorem Ev.eqNil {e : Expr} {p1 p2 : Pos} {l : List D} (h : Ev c a σ e (.ok (.lst l, σ.own))) : Ev c a σ (.Compare e [.Eq] [.List [] p1] p2) (.ok (.bool l.isEmpty, σ.own)) := .cmp h (.list .nil) (.eq (EqD.nil l))
theorem Tr.eqNil {e : Expr} {p1 p2 : Pos} {l : List D} (h : Ev c a σ e (.ok (.lst l, σ.own))) : Tr c a σ (.Compare e [.Eq] [.List [] p1] p2) (.ok (l.isEmpty, σ.own)) := .cmp h (.list .nil) (.eq (EqD.nil l))

theorem Ev.compV {elt target iter : Expr} {ifs : List Expr} {scope : Scope} {pos : Pos} {cl : List (PySem.Str × Addr)} {lc : List (PySem.Str × D)} {d : D} {ds es : List D} {ωo : Own}
    (h : Ev c a σ iter (.ok (d, σ.own))) (hit : Iterable c d ds) (cg : Caught a σ.loc scope cl lc) (hz : ds.length ≤ 1000)
    (t : ∀ C g0 s0, CTurns c (compAct a scope cl C g0 s0 []) lc target ifs elt [] ds (.ok (es, ωo)))
    (hs : ∀ x, foldedSetIterable iter a.env x = pure x := by intro _; rfl) : Ev c a σ (.ListComp elt [⟨target, iter, ifs, 0⟩] scope pos) (.ok (.lst es, σ.own)) := .compP (o := .ok (es, ωo)) h hit cg hz t hs
theorem Ev.compErr {elt target iter : Expr} {ifs : List Expr} {scope : Scope} {pos : Pos} {cl : List (PySem.Str × Addr)} {lc : List (PySem.Str × D)} {d : D} {ds : List D}
    (h : Ev c a σ iter (.ok (d, σ.own))) (hit : Iterable c d ds) (cg : Caught a σ.loc scope cl lc) (hz : ds.length ≤ 1000)
    (t : ∀ C g0 s0, CTurns c (compAct a scope cl C g0 s0 []) lc target ifs elt [] ds .err)
    (hs : ∀ x, foldedSetIterable iter a.env x = pure x := by intro _; rfl) : Ev c a σ (.ListComp elt [⟨target, iter, ifs, 0⟩] scope pos) .err := .compP (o := .err) h hit cg hz t hs

/-- [x for x in b if test] on bytes -/
theorem Ev.octets {x : PySem.Str} {p1 p2 : Pos} {iter test : Expr} {scope : Scope} {pos : Pos} {b : List UInt8} (P : UInt8 → Bool) (h : Ev c a σ iter (.ok (.bytes b, σ.own))) (cg : Caught a σ.loc scope [] []) (hz : b.length ≤ 1000) (hx : (relabel scope a.env).names.lookup x = some NameKind.local)
    (hd : (x == ("__debug__" : PySem.Str)) = false) (hc : (x == ("__classdict__" : PySem.Str)) = false)
    (t : ∀ C g0 s0 (o : UInt8), o ∈ b → ∀ ζ, Tr c (compAct a scope [] C g0 s0 []) ⟨[(x, .int o.toNat)], ζ⟩ test (.ok (P o, ζ)))
    (hs : ∀ x, foldedSetIterable iter a.env x = pure x := by intro _; rfl) : Ev c a σ (.ListComp (.Name x p1) [⟨.Name x p2, iter, [test], 0⟩] scope pos) (.ok (.lst ((b.filter P).map fun x => .int x.toNat), σ.own)) :=
  .compV (ωo := []) h (.bytes b) cg (by simpa using hz) (fun C g0 s0 => .over (fun x : UInt8 => .int x.toNat) (fun o => [(x, .int o.toNat)]) P (fun x => .int x.toNat) b (fun o _ ζ => .name (.inl hx)) (fun o _ y e h => by cases h) (fun o ho ζ => .one (t C g0 s0 o ho ζ))
    (fun o _ _ ζ => .name (by simp) hd hc)) hs
theorem filter_some {α β : Type} (l : List α) (P : α → Bool) (f : α → β) : (!((l.filter P).map f).isEmpty) = l.any P := by
  induction l with
  | nil => rfl
  | cons x l ih =>
    by_cases h : P x = true
    · simp [h]
    · simp only [Bool.not_eq_true] at h
      rw [List.filter_cons_of_neg (by simp [h]), ih, List.any_cons, h, Bool.false_or]

noncomputable def boolOut (b : Bool) : Out D := if b then .ok .none else .err
theorem Ex.ifB {test : Expr} {body : List Stmt} {pos : Pos} {b : Bool} (h : Tr c a σ test (.ok (b, σ.own))) (hT : b = true → Exs c a σ body .err) : Ex c a σ (.If test body [] pos) (if b then .err else .ok (.next σ)) := by
  cases b with
  | true => exact .if_ h (fun _ => hT rfl) (fun q => by cases q)
  | false => exact .if_ h (fun q => by cases q) (fun _ => .nil)
/-- a row whose first statement may raise -/
theorem Body.guard {st : Stmt} {rest : List Stmt} {b b' : Bool} {d : D} {ω : Own} (h : Ex c a σ st (if b then .err else .ok (.next σ))) (h2 : b = false → Body c a σ rest (if b' then .ok d else .err) ω) : Body c a σ (st :: rest) (if !b && b' then .ok d else .err) ω := by
  cases b with
  | true => exact .err (.err h)
  | false =>
    have h' : Ex c a σ st (.ok (.next σ)) := h
    have h2' := h2 rfl
    refine .mk fun g s H => ?_
    refine wpAny_execs_cons (wpAny_mono (h'.run g s H) (fun f s₁ h => ?_) fun _ _ e => (nomatch e.1))
    cases f with
    | next =>
      obtain ⟨σ', q, g₁, k₁, H₁⟩ := h
      cases q
      refine wpAny_mono (h2'.run g₁ s₁ H₁) (fun f s₂ ⟨d', q, g', σ', k', H', r⟩ => ⟨d', by simpa using q, g', σ', fun b o e => k' b o (k₁ b o e), H', r⟩) fun x s₂ he => ?_
      have he' := ErT.up k₁ he
      simpa using he'
    | ret v => obtain ⟨d, ω, q, _⟩ := h; cases q
    | _ => exact h.elim
theorem Body.step {st : Stmt} {rest : List Stmt} {σ₁ : Sg} {r : Out D} {ω : Own} (h : Ex c a σ st (.ok (.next σ₁))) (h2 : Body c a σ₁ rest r ω) : Body c a σ (st :: rest) r ω := .mk fun g s H => by
  refine wpAny_execs_cons (wpAny_mono (h.run g s H) (fun f s₁ h => ?_) fun _ _ e => (nomatch e.1))
  cases f with
  | next =>
    obtain ⟨σ', q, g₁, k₁, H₁⟩ := h
    cases q
    refine wpAny_mono (h2.run g₁ s₁ H₁) (fun f s₂ ⟨d', q, g', σ', k', H', r⟩ => ⟨d', q, g', σ', fun b o e => k' b o (k₁ b o e), H', r⟩) fun x s₂ he => ErT.up k₁ he
  | ret v => obtain ⟨d, ω, q, _⟩ := h; cases q
  | _ => exact h.elim
theorem Body.stop {st : Stmt} {rest : List Stmt} {ω : Own} (h : Ex c a σ st .err) : Body c a σ (st :: rest) .err ω := .err (.err h)
theorem Body.cast {body : List Stmt} {r r' : Out D} {ω : Own} (h : Body c a σ body r ω) (q : r = r') : Body c a σ body r' ω := q ▸ h
theorem Body.nil {ω : Own} (h : ∀ p ∈ ω, p ∈ σ.own) : Body c a σ [] (.ok .none) ω := .next .nil h
theorem Body.done {st : Stmt} {rest : List Stmt} {d : D} {ω ω' : Own} (h : Ex c a σ st (.ok (.ret d ω))) (hω : ∀ p ∈ ω', p ∈ ω) : Body c a σ (st :: rest) (.ok d) ω' := .ret (.ret h) hω

/-- each name of l' is held by l as well -/
noncomputable def SubL : List (PySem.Str × D) → List (PySem.Str × D) → Prop
  | [], _ => True
  | (x, d) :: r, l => l.lookup x = some d ∧ SubL r l
theorem SubL.at : ∀ {l' l : List (PySem.Str × D)}, SubL l' l → ∀ x d, l'.lookup x = some d → l.lookup x = some d
  | [], _, _, x, d, h => by cases h
  | (y, e) :: r, l, ⟨h1, h2⟩, x, d, h => by
    rw [List.lookup_cons] at h
    cases q : x == y with
    | true => rw [q] at h; cases h; rw [eq_of_beq q]; exact h1
    | false => rw [q] at h; exact SubL.at h2 x d h
theorem Exs.forget {ss : List Stmt} {l l' : List (PySem.Str × D)} {ω : Own} (h : Exs c a σ ss (.ok (.next ⟨l, ω⟩))) (hl : SubL l' l) : Exs c a σ ss (.ok (.next ⟨l', ω⟩)) := .mk fun g s H => by
  refine wpAny_mono (h.run g s H) (fun f s₁ h => ?_) fun _ _ e => (nomatch e.1)
  cases f with
  | next => obtain ⟨σ', q, g₁, k₁, H₁⟩ := h; cases q; exact ⟨_, rfl, g₁, k₁, H₁.forgetLoc hl.at⟩
  | ret v => obtain ⟨d, ω, q, _⟩ := h; cases q
  | _ => exact h.elim
/-- less is known at the start -/
theorem Exs.from {ss : List Stmt} {l l' : List (PySem.Str × D)} {ω : Own} {o : Out Fin} (h : Exs c a ⟨l', ω⟩ ss o) (hl : SubL l' l) : Exs c a ⟨l, ω⟩ ss o := .mk fun g s H => h.run g s (H.forgetLoc hl.at)
theorem Body.from {ss : List Stmt} {l l' : List (PySem.Str × D)} {ω ω' : Own} {o : Out D} (h : Body c a ⟨l', ω⟩ ss o ω') (hl : SubL l' l) : Body c a ⟨l, ω⟩ ss o ω' := .mk fun g s H => h.run g s (H.forgetLoc hl.at)

/-- a call that gives None, or raises -/
theorem Ex.callB {e : Expr} {pos : Pos} {b : Bool} (h : Ev c a σ e ((boolOut (!b)).with σ.own)) (hi : interactive a.env = false := by rfl) (hs : swapsWith e none pos.line a.env = pure false := by rfl) : Ex c a σ (.Expr e pos) (if b then .err else .ok (.next σ)) := by
  cases b with
  | true => exact .exprErr h hi hs
  | false => exact .expr (d := .none) (ω := σ.own) h rfl hi hs
end

section
open PySem PySem.W PySem.Calls PyProof.Rows PySem.SeqAt
variable {c : Cx} {a : Act} {g : Heap} {s : Shared} {σ : Sg}

/-! names that a comprehension catches -/
noncomputable def CapOk (a : Act) (l : List (PySem.Str × D)) (scope : Scope) : List (PySem.Str × Addr × D) → Prop
  | [] => True
  | (x, b, d) :: r => a.env.cells.lookup x = some b ∧ l.lookup x = some d ∧ (a.env.kindOf x = some .cell ∨ a.env.kindOf x = some .free) ∧ ((relabel scope a.env).names.lookup x = some .cell ∨ (relabel scope a.env).names.lookup x = some .free) ∧ CapOk a l scope r
noncomputable def capsC : List (PySem.Str × Addr × D) → List (PySem.Str × Addr)
  | [] => []
  | (x, b, d) :: r => (x, b) :: capsC r
noncomputable def capsL : List (PySem.Str × Addr × D) → List (PySem.Str × D)
  | [] => []
  | (x, b, d) :: r => (x, d) :: capsL r
theorem CapOk.sub {l : List (PySem.Str × D)} {scope : Scope} : ∀ {caps : List (PySem.Str × Addr × D)}, CapOk a l scope caps → ∀ x b, (capsC caps).lookup x = some b → a.env.cells.lookup x = some b
  | [], _, x, b, h => by cases h
  | (y, e, d) :: r, ⟨h1, h2, h3, h4, h5⟩, x, b, h => by
    rw [capsC, List.lookup_cons] at h
    cases q : x == y with
    | true => rw [q] at h; cases h; rw [eq_of_beq q]; exact h1
    | false => rw [q] at h; exact CapOk.sub h5 x b h
theorem CapOk.names {l : List (PySem.Str × D)} {scope : Scope} : ∀ {caps : List (PySem.Str × Addr × D)}, CapOk a l scope caps → ∀ x d, (capsL caps).lookup x = some d →
    l.lookup x = some d ∧ a.env.kindOf x ≠ some .local ∧ (∃ b, (capsC caps).lookup x = some b) ∧ ((relabel scope a.env).names.lookup x = some .cell ∨ (relabel scope a.env).names.lookup x = some .free)
  | [], _, x, d, h => by cases h
  | (y, e, d') :: r, ⟨h1, h2, h3, h4, h5⟩, x, d, h => by
    rw [capsL, List.lookup_cons] at h
    cases q : x == y with
    | true =>
      rw [q] at h; cases h; rw [eq_of_beq q]
      exact ⟨h2, fun k => by rcases h3 with h3 | h3 <;> (rw [h3] at k; cases k), ⟨e, by simp [capsC]⟩, h4⟩
    | false =>
      rw [q] at h
      obtain ⟨a1, a2, ⟨b, a3⟩, a4⟩ := CapOk.names h5 x d h
      exact ⟨a1, a2, ⟨b, by rw [capsC, List.lookup_cons, q]; exact a3⟩, a4⟩
theorem Caught.of {l : List (PySem.Str × D)} {scope : Scope} (caps : List (PySem.Str × Addr × D)) (h : closureFor scope a.env = pure (capsC caps)) (hc : CapOk a l scope caps) (h1 : scope.names.all (fun x => x.2 != .cell) = true) (h2 : scope.kind = .function)
    (h3 : scope.names.all (fun x => x.2 != .local || scope.names.lookup x.1 == some .local) = true) : Caught a l scope (capsC caps) (capsL caps) :=
  ⟨h, hc.sub, hc.names, fun x hx q => (by have := List.all_eq_true.mp h1 x hx; rw [q] at this; cases this), h2, fun x hx q => by
    have := List.all_eq_true.mp h3 x hx
    rw [q] at this
    simpa using this⟩

/-! rows of bytes, of ints -/
noncomputable def bytesOf : List D → List (List UInt8)
  | .bytes b :: r => b :: bytesOf r
  | _ => []
noncomputable def intsOf : List D → List Int
  | .int b :: r => b :: intsOf r
  | _ => []
theorem Bin.inTupBc (x : List UInt8) (ds : List D) (h : (bytesOf ds).map .bytes = ds := by rfl) : Bin c a σ (compareOp .In) (.bytes x) (.tup ds) (.bool ((bytesOf ds).contains x)) := by
  conv => lhs; skip
  have := Bin.inTupB (c := c) (a := a) (σ := σ) x (bytesOf ds); rw [h] at this; exact this
theorem Bin.notInTupBc (x : List UInt8) (ds : List D) (h : (bytesOf ds).map .bytes = ds := by rfl) : Bin c a σ (compareOp .NotIn) (.bytes x) (.tup ds) (.bool (!(bytesOf ds).contains x)) := by
  have := Bin.notInTupB (c := c) (a := a) (σ := σ) x (bytesOf ds); rw [h] at this; exact this
theorem Bin.inTupIc (x : Int) (ds : List D) (h : (intsOf ds).map .int = ds := by rfl) : Bin c a σ (compareOp .In) (.int x) (.tup ds) (.bool ((intsOf ds).contains x)) := by
  have := Bin.inTupI (c := c) (a := a) (σ := σ) x (intsOf ds); rw [h] at this; exact this

/-! rows of statements -/
theorem Exs.cast {ss : List Stmt} {o o' : Out Fin} (h : Exs c a σ ss o) (q : o = o') : Exs c a σ ss o' := q ▸ h
theorem Ex.cast {ss : Stmt} {o o' : Out Fin} (h : Ex c a σ ss o) (q : o = o') : Ex c a σ ss o' := q ▸ h
noncomputable def RetO (r : Out D) (ω : Own) : Out Fin := match r with
  | .ok d => .ok (.ret d ω)
  | .err => .err
theorem Exs.ifE {test : Expr} {body rest : List Stmt} {pos : Pos} {b : Bool} {o1 o2 : Out Fin} (h : Tr c a σ test (.ok (b, σ.own))) (hT : b = true → Exs c a σ body o1) (hs : b = true → ∀ σ', o1 ≠ .ok (.next σ')) (hF : b = false → Exs c a σ rest o2) :
    Exs c a σ (.If test body [] pos :: rest) (if b then o1 else o2) := by
  cases b with
  | true =>
    have hT := hT rfl
    have hs := hs rfl
    cases o1 with
    | err => exact .err (.if_ h (fun _ => hT) fun q => by cases q)
    | ok f =>
      cases f with
      | next σ' => exact (hs σ' rfl).elim
      | ret d ω => exact .ret (.if_ h (fun _ => hT) fun q => by cases q)
  | false => exact .cons (.if_ (σ := σ) (o := .ok (.next σ)) h (fun q => by cases q) fun _ => Exs.nil) (hF rfl)
theorem Exs.ifR {test : Expr} {body rest : List Stmt} {pos : Pos} {b : Bool} {ω' : Own} {r1 r2 : Out D} (h : Tr c a σ test (.ok (b, σ.own))) (hT : b = true → Exs c a σ body (RetO r1 ω')) (hF : b = false → Exs c a σ rest (RetO r2 ω')) :
    Exs c a σ (.If test body [] pos :: rest) (RetO (if b then r1 else r2) ω') := by
  refine .cast (.ifE h hT (fun _ σ' q => by cases r1 <;> cases q) hF) ?_
  cases b <;> rfl
/-- a test whose body raises -/
theorem Exs.guard {test : Expr} {body rest : List Stmt} {pos : Pos} {b : Bool} {ω' : Own} {r : Out D} (h : Tr c a σ test (.ok (b, σ.own))) (hT : b = true → Exs c a σ body .err) (hF : b = false → Exs c a σ rest (RetO r ω')) :
    Exs c a σ (.If test body [] pos :: rest) (RetO (if b then .err else r) ω') := .ifR (r1 := .err) h hT hF
theorem Exs.retE {e : Expr} {pos : Pos} {rest : List Stmt} {d : D} {ω : Own} (h : Ev c a σ e (.ok (d, ω))) : Exs c a σ (.Return (some e) pos :: rest) (RetO (.ok d) ω) := .ret (.ret h)
theorem Body.ofR {ss : List Stmt} {r : Out D} {ω ω' : Own} (h : Exs c a σ ss (RetO r ω)) (hω : ∀ p ∈ ω', p ∈ ω) : Body c a σ ss r ω' := by
  cases r with
  | ok d => exact .ret h hω
  | err => exact .err h
/-- a statement that may raise, ahead of a row -/
theorem Exs.bind {α : Type} {st : Stmt} {rest : List Stmt} {o : Out α} {st' : α → Sg} {ω' : Own} {r : α → Out D} (h : Ex c a σ st (match o with | .ok x => .ok (.next (st' x)) | .err => .err)) (h2 : ∀ x, o = .ok x → Exs c a (st' x) rest (RetO (r x) ω')) :
    Exs c a σ (st :: rest) (RetO (match o with | .ok x => r x | .err => .err) ω') := by
  cases o with
  | ok x => exact .cons h (h2 x rfl)
  | err => exact .err h

/-! folds -/
inductive Tn (β : Type) where
  | go (b : β)
  | err
  | ret (d : D) (ω : Own)
noncomputable def foldT {α β : Type} (step : β → α → Tn β) : β → List α → Tn β
  | b, [] => .go b
  | b, x :: r => match step b x with
    | .go b' => foldT step b' r
    | .err => .err
    | .ret d ω => .ret d ω
noncomputable def TnO {β : Type} (st : β → Sg) : Tn β → Out Fin
  | .go b => .ok (.next (st b))
  | .err => .err
  | .ret d ω => .ok (.ret d ω)
/-- the turn's end, with what is owned beside -/
noncomputable def TnZ {β : Type} (st : β → Sg) (ζ : Own) : Tn β → Out Fin
  | .go b => .ok (.next ⟨(st b).loc, (st b).own ++ ζ⟩)
  | .err => .err
  | .ret d ω => .ok (.ret d (ω ++ ζ))
theorem Turns.fold {α β : Type} {target : Expr} {body : List Stmt} (st : β → Sg) (f : α → D) (step : β → α → Tn β) (l₁ : β → α → List (PySem.Str × D)) (P : β → List α → Prop)
    (hP : ∀ b x r b', P b (x :: r) → step b x = .go b' → P b' r)
    (hA : ∀ b x r ζ, P b (x :: r) → As c a ⟨(st b).loc, (st b).own ++ ζ⟩ target (f x) ⟨l₁ b x, (st b).own ++ ζ⟩)
    (hB : ∀ b x r ζ, P b (x :: r) → Exs c a ⟨l₁ b x, (st b).own ++ ζ⟩ body (TnZ st ζ (step b x))) :
    ∀ (xs : List α) (b : β), P b xs → Turns c a target body (st b) (xs.map f) (TnO st (foldT step b xs))
  | [], b, _ => .nil
  | x :: r, b, p => by
    rw [List.map_cons, foldT]
    have h1 := fun ζ => hA b x r ζ p
    have h2 := fun ζ => hB b x r ζ p
    have h3 := hP b x r
    cases q : step b x with
    | go b' => rw [q] at h2; exact .go h1 h2 (Turns.fold st f step l₁ P hP hA hB r b' (h3 b' p q))
    | err => rw [q] at h2; exact .err h1 h2
    | ret d ω => rw [q] at h2; exact .ret h1 h2
theorem Ex.from {ss : Stmt} {l l' : List (PySem.Str × D)} {ω : Own} {o : Out Fin} (h : Ex c a ⟨l', ω⟩ ss o) (hl : SubL l' l) : Ex c a ⟨l, ω⟩ ss o := .mk fun g s H => h.run g s (H.forgetLoc hl.at)
theorem Ex.forT {α β : Type} {target iter : Expr} {body : List Stmt} {pos : Pos} {d : D} (st : β → Sg) (f : α → D) (step : β → α → Tn β) (l₁ : β → α → List (PySem.Str × D)) (P : β → List α → Prop) (xs : List α) (b : β)
    (h : Ev c a ⟨(st b).loc, σ.own⟩ iter (.ok (d, (st b).own))) (hi : Iterable c d (xs.map f)) (hst : SubL (st b).loc σ.loc) (p0 : P b xs)
    (hP : ∀ b x r b', P b (x :: r) → step b x = .go b' → P b' r)
    (hA : ∀ b x r ζ, P b (x :: r) → As c a ⟨(st b).loc, (st b).own ++ ζ⟩ target (f x) ⟨l₁ b x, (st b).own ++ ζ⟩)
    (hB : ∀ b x r ζ, P b (x :: r) → Exs c a ⟨l₁ b x, (st b).own ++ ζ⟩ body (TnZ st ζ (step b x)))
    (hs : ∀ x, foldedSetIterable iter a.env x = pure x := by intro _; rfl) : Ex c a σ (.For target iter body [] pos) (TnO st (foldT step b xs)) :=
  .from (l' := (st b).loc) (.for_ h hi (Turns.fold (c := c) (a := a) (target := target) (body := body) st f step l₁ P hP hA hB xs b p0) hs) hst
theorem Ex.forget {ss : Stmt} {l l' : List (PySem.Str × D)} {ω : Own} (h : Ex c a σ ss (.ok (.next ⟨l, ω⟩))) (hl : SubL l' l) : Ex c a σ ss (.ok (.next ⟨l', ω⟩)) := .mk fun g s H => by
  refine wpAny_mono (h.run g s H) (fun f s₁ h => ?_) fun _ _ e => (nomatch e.1)
  cases f with
  | next => obtain ⟨σ', q, g₁, k₁, H₁⟩ := h; cases q; exact ⟨_, rfl, g₁, k₁, H₁.forgetLoc hl.at⟩
  | ret v => obtain ⟨d, ω, q, _⟩ := h; cases q
  | _ => exact h.elim
end

section
open PySem PySem.W PySem.Calls PyProof.Rows PySem.SeqAt
variable {c : Cx} {a : Act} {g : Heap} {s : Shared} {σ : Sg}

theorem RdAll.ints : ∀ {vs : List Value} {ns : List Int}, RdAll c g vs (ns.map .int) → ∃ xs : List (Int × Tok), vs = xs.map (fun p => .int p.1 p.2) ∧ xs.map (·.1) = ns
  | [], [], _ => ⟨[], rfl, rfl⟩
  | [], n :: r, h => by cases h
  | v :: vs, [], h => by cases h
  | v :: vs, n :: r, h => by
    · obtain ⟨_, _, e0, h1, h2⟩ := h.inv
      cases e0
      obtain ⟨xs, e1, e2⟩ := RdAll.ints h2
      · obtain ⟨t, rfl⟩ := h1.inv
        exact ⟨(n, t) :: xs, by rw [e1]; rfl, by rw [List.map_cons, e2]⟩
theorem CallOk.sum (ns : List Int) : CallOk c a σ (.blt "sum") [.lst (ns.map .int)] (.ok (.int ns.sum, σ.own)) := .of fun g s v vs H hv hvs => by
  obtain rfl := hv.inv
  · obtain ⟨_, _, rfl, h, r⟩ := hvs.inv
    obtain rfl := r.inv
    · obtain ⟨_, _, rfl, hl, r⟩ := h.inv
      obtain ⟨xs, rfl, rfl⟩ := r.ints
      have hl' := isList_up H.stays hl
      refine sum_intListG (xs := xs.toArray) H.ok.hd (by simpa [intItems] using hl') fun h' tk t' hk => ⟨g, Mv.same H.stays hk, ?_⟩
      rw [preSum_eq, List.take_of_length_le (by simp)]
      exact .int _ _

/-! bytes.strip -/
theorem slot_strip : Slot "bytes" "strip" "bytes.strip" :=
  .of (owner := "bytes") (n := "strip") (by rw [typeLookup_type, builtinLookup_eq_fast]; kernel_rfl) (by decide +kernel) (by decide +kernel) (by decide +kernel)
    (by first | exact .inl (by decide +kernel) | exact .inr (by decide +kernel)) (by rw [isSubtype_type]; kernel_rfl)
theorem type_strip : typeOf (.builtin "bytes.strip") = pure (.type "method_descriptor") := by show builtinType _ = _; rw [builtinType_eq_fast]; kernel_rfl
theorem entry_strip : entryFor table "bytes.strip" = some Builtin.«bytes.strip» := entryFor_of_tree (by kernel_rfl)
theorem args_strip (a b : Value) : argsOk "bytes.strip" ⟨[a, b], []⟩ := by
  unfold argsOk; rw [signature?_of (id := "bytes.strip") (n := ['p', 'i', 'r', 't', 's']) (o := ['s', 'e', 't', 'y', 'b']) (by kernel_rfl) FB.owner_bytes]; kernel_rfl
noncomputable def stripB (b x : List UInt8) : List UInt8 := ((b.dropWhile x.contains).reverse.dropWhile x.contains).reverse
theorem strip_len (b x : List UInt8) : (stripB b x).length ≤ b.length ∧ ((stripB b x).length = b.length → stripB b x = b) := by
  have h1 := List.dropWhile_suffix (l := b) x.contains
  have h2 := List.dropWhile_suffix (l := (b.dropWhile x.contains).reverse) x.contains
  have l1 := h1.length_le
  have l2 := h2.length_le
  unfold stripB
  simp only [List.length_reverse] at l1 l2 ⊢
  refine ⟨by omega, fun e => ?_⟩
  rw [h2.eq_of_length (by simp; omega), List.reverse_reverse]
  exact h1.eq_of_length (by omega)
theorem meets_strip (b x : List UInt8) (u t : Tok) : Meets (Builtin.«bytes.strip» ⟨[.bytes b.toArray u, .bytes x.toArray t], []⟩)
    (fun A R s => b.length ≤ 1000 ∧ ∀ u' k, R (.ok (.ret (.bytes (stripB b x).toArray u'))) { s with toks := k }) := by
  refine .of_wp fun prog w A R s hh => ?_
  obtain ⟨hz, h⟩ := hh
  obtain ⟨z1, z2⟩ := strip_len b x
  show wpAny _ _ (Builtin.Bytes.bytesLike _ (.bytes x.toArray t) >>= fun set => _) _ _ s
  refine wpAny_bind (wpAny_of_eq KBd.like_eq ?_)
  refine wpAny_bind (wpAny_pure ?_)
  refine wpAny_bind (wpAny_of_eq (a := b.toArray) rfl ?_)
  have e1 : x.toArray.contains = x.contains := by funext y; simp
  have e2 : (((b.toArray.toList.dropWhile x.toArray.contains).reverse.dropWhile x.toArray.contains).reverse) = stripB b x := by rw [e1]; rfl
  simp only [if_true]
  rw [e2]
  split
  · rename_i hq
    refine wpAny_bind (wpAny_rule ?_)
    have hs : Builtin.Bytes.Kind.bytes.same (Value.bytes b.toArray u) = pure (Value.bytes b.toArray u) := rfl
    refine wpAny_bind (wpAny_of_eq hs (wpAny_pure ⟨_, rfl, ?_⟩))
    have := h u s.toks
    rw [z2 (by simpa using hq)] at this
    exact this
  · refine wpAny_bind (wpAny_mkBytes ?_ (by rw [sizeLine_eq]; simp; omega))
    exact wpAny_pure ⟨_, rfl, h _ _⟩


theorem Ev.strip {oe e1 : Expr} {apos pos : Pos} {b x : List UInt8} (h1 : Ev c a σ oe (.ok (.bytes b, σ.own))) (h2 : EvAll c a σ pos [e1] (.ok ([.bytes x], σ.own))) (hz : b.length ≤ 1000)
    (hbase : attributeBase oe "strip" a.env (eval oe a.env) = eval oe a.env := by rfl) (he : starEach [e1] a.env = (false, eval e1 a.env) :: starEach [] a.env := by rfl) (hplain : (backTo pos (starEach [] a.env)).any (·.1) = false := by rfl)
    (hfew : ((backTo pos (starEach [e1] a.env)).all (fun x => !x.1) && (backToKw pos (keywordEach [] a.env)).all (fun x => x.1.isSome)
      && decide (([e1] : List Expr).length + ([] : List Keyword).length + (if ([] : List Keyword).isEmpty then 0 else 1) < 30)) = true := by rfl) (hline : (apos.endLine == pos.line) = true := by rfl) :
    Ev c a σ (.Call (.Attribute oe "strip" apos) [e1] [] pos) (.ok (.bytes (stripB b x), σ.own)) :=
  .meth (T := "bytes") (id := "bytes.strip") h1 h2 FB.plainAttrs_bytes slot_strip type_strip (fun g s v H hv => by
    obtain ⟨_, rfl⟩ := hv.inv
    exact ⟨typeIs_bytes _ _ _, fun b e => nomatch e⟩) (fun g s v vs H hv hvs => by
    obtain ⟨_, _, rfl, hk, hr⟩ := hvs.inv
    obtain rfl := hr.inv
    obtain ⟨_, rfl⟩ := hv.inv
    obtain ⟨_, rfl⟩ := hk.inv
    exact call_meets slot_strip (typeIs_bytes _ _ _) entry_strip (args_strip _ _) (meets_strip _ _ _ _) ⟨hz, fun u' k => ⟨_, _, rfl, g, fun _ _ e => e, H.toks _, .bytes _ _⟩⟩) hbase he hplain hfew hline

/-! int(text), b.decode('ascii') -/
theorem CallOk.intStr (x : PySem.Str) (n : Int) (hn : PySem.intText? x = some n) (hl : x.length ≤ 640) : CallOk c a σ (.typ "int") [.str x] (.ok (.int n, σ.own)) := .of fun g s v vs H hv hvs => by
  obtain rfl := hv.inv
  · obtain ⟨_, _, rfl, h, r⟩ := hvs.inv
    obtain rfl := r.inv; obtain ⟨_, rfl⟩ := h.inv
    exact KIN.call_text hn hl ⟨g, Mv.toks H.stays _, .int _ _⟩
theorem args_decode (a b : Value) : argsOk "bytes.decode" ⟨[a, b], []⟩ := by
  unfold argsOk; rw [signature?_of (id := "bytes.decode") (n := ['e', 'd', 'o', 'c', 'e', 'd']) (o := ['s', 'e', 't', 'y', 'b']) (by kernel_rfl) FB.owner_bytes]; kernel_rfl
open Builtin in
theorem road_ascii {id : String} {b : Array UInt8} : _codecs.decodeRoad id b (PySem.Str.ofString "ascii") none [] = (_codecs.runDecoder id _codecs.asciiDecoder none true b 0 [] >>= fun r => mkStr ⟨r.1⟩) := by kernel_rfl
open Builtin in
theorem meets_text_ascii {b : Array UInt8} {t : Tok} {x : PySem.Str} {n : Nat} {t1 t2 : Tok} {d : PySem.Str} (hd : ∀ id, _codecs.runDecoder id _codecs.asciiDecoder none true b 0 [] = pure (x.cps, n)) :
    Meets («_codecs.decode.text» ⟨[.bytes b t, .str (PySem.Str.ofString "ascii") t1, .none, .str d t2], []⟩) (fun _ R s => x.length ≤ sizeLine ∧ R (.ok (.ret (.str x s.toks))) { s with toks := s.toks + 1 }) := by
  refine .of_wp fun prog w A R s hS => ?_
  obtain ⟨hsz, h⟩ := hS
  show wpAny _ _ (Bytes.bytesLike _ (.bytes b t) >>= fun r => _) _ _ s
  refine wpAny_bind (wpAny_of_eq KBd.like_eq ?_)
  refine wpAny_bind (wpAny_of_eq KBd.held_eq ?_)
  show wpAny _ _ (_codecs.decodeRoad _ b (PySem.Str.ofString "ascii") none [] >>= fun v => _) _ _ s
  rw [road_ascii, hd]
  refine wpAny_bind (wpAny_bind (wpAny_pure ?_))
  exact wpAny_mkStr (wpAny_pure ⟨_, rfl, h⟩) hsz
open Builtin in
theorem decode_entry {c : UInt8} {cs : List UInt8} {t te : Tok} : «bytes.decode» ⟨[.bytes (c :: cs).toArray t, .str (PySem.Str.ofString "ascii") te], []⟩ = (mkStr (PySem.Str.ofString "utf-8") >>= fun _ => mkStr (PySem.Str.ofString "ascii") >>= fun e => mkStr (PySem.Str.ofString "bytes.decode") >>= fun d =>
    call (.builtin "_codecs.decode.text") [.bytes (c :: cs).toArray t, e, .none, d] >>= fun v => ret v) := by kernel_rfl
open Builtin in
/-- b reads x, and x the number n -/
structure Dec (b : List UInt8) (x : PySem.Str) (n : Int) : Prop where
  run : ∃ k, ∀ id, _codecs.runDecoder id _codecs.asciiDecoder none true b.toArray 0 [] = pure (x.cps, k)
  num : PySem.intText? x = some n
  len : x.length ≤ 640
  ne : b ≠ []
theorem dec_5 : Dec [53] "5" 5 := ⟨⟨1, fun _ => by kernel_rfl⟩, by kernel_rfl, by decide +kernel, by decide⟩
theorem dec_05 : Dec [48, 53] "05" 5 := ⟨⟨2, fun _ => by kernel_rfl⟩, by kernel_rfl, by decide +kernel, by decide⟩
theorem dec_200 : Dec [50, 48, 48] "200" 200 := ⟨⟨3, fun _ => by kernel_rfl⟩, by kernel_rfl, by decide +kernel, by decide⟩
theorem dec_103 : Dec [49, 48, 51] "103" 103 := ⟨⟨3, fun _ => by kernel_rfl⟩, by kernel_rfl, by decide +kernel, by decide⟩
theorem dec_404 : Dec [52, 48, 52] "404" 404 := ⟨⟨3, fun _ => by kernel_rfl⟩, by kernel_rfl, by decide +kernel, by decide⟩
theorem dec_304 : Dec [51, 48, 52] "304" 304 := ⟨⟨3, fun _ => by kernel_rfl⟩, by kernel_rfl, by decide +kernel, by decide⟩

open Builtin in
theorem meets_decode_ascii {b : List UInt8} {x : PySem.Str} {n : Int} {t te : Tok} (hd : Dec b x n) : Meets («bytes.decode» ⟨[.bytes b.toArray t, .str (PySem.Str.ofString "ascii") te], []⟩) (fun _ R s => ∀ t' k, R (.ok (.ret (.str x t'))) { s with toks := k }) := by
  obtain ⟨⟨k, h1⟩, h2, h3, h4⟩ := hd
  cases b with
  | nil => exact (h4 rfl).elim
  | cons c cs =>
    refine .of_wp fun prog w A R s h => ?_
    rw [decode_entry]
    refine wpAny_bind (wpAny_mkStr ?_ (by decide))
    refine wpAny_bind (wpAny_mkStr ?_ (by decide))
    refine wpAny_bind (wpAny_mkStr ?_ (by decide))
    exact wpAny_bind (call_function_meets KBd.kind_text KBd.plain_text KBd.entry_text (KBd.args_text _ _ _ _) (meets_text_ascii h1) ⟨by rw [sizeLine_eq]; omega, wpAny_pure ⟨_, rfl, h _ _⟩⟩)

theorem Ev.decode {oe e1 : Expr} {apos pos : Pos} {b : List UInt8} {x : PySem.Str} {n : Int} (h1 : Ev c a σ oe (.ok (.bytes b, σ.own))) (h2 : EvAll c a σ pos [e1] (.ok ([.str (PySem.Str.ofString "ascii")], σ.own))) (hd : Dec b x n)
    (hbase : attributeBase oe "decode" a.env (eval oe a.env) = eval oe a.env := by rfl) (he : starEach [e1] a.env = (false, eval e1 a.env) :: starEach [] a.env := by rfl) (hplain : (backTo pos (starEach [] a.env)).any (·.1) = false := by rfl)
    (hfew : ((backTo pos (starEach [e1] a.env)).all (fun x => !x.1) && (backToKw pos (keywordEach [] a.env)).all (fun x => x.1.isSome)
      && decide (([e1] : List Expr).length + ([] : List Keyword).length + (if ([] : List Keyword).isEmpty then 0 else 1) < 30)) = true := by rfl) (hline : (apos.endLine == pos.line) = true := by rfl) :
    Ev c a σ (.Call (.Attribute oe "decode" apos) [e1] [] pos) (.ok (.str x, σ.own)) :=
  .meth (T := "bytes") (id := "bytes.decode") h1 h2 FB.plainAttrs_bytes FB.slot_bytes_decode FB.type_bytes_decode (fun g s v H hv => by
    obtain ⟨_, rfl⟩ := hv.inv
    exact ⟨typeIs_bytes _ _ _, fun b e => nomatch e⟩) (fun g s v vs H hv hvs => by
    obtain ⟨_, _, rfl, hk, hr⟩ := hvs.inv
    obtain rfl := hr.inv
    obtain ⟨_, rfl⟩ := hv.inv
    obtain ⟨_, rfl⟩ := hk.inv
    exact call_meets FB.slot_bytes_decode (typeIs_bytes _ _ _) FB.entry_bytes_decode (args_decode _ _) (meets_decode_ascii hd) fun u' k => ⟨_, _, rfl, g, fun _ _ e => e, H.toks _, .str _ _⟩) hbase he hplain hfew hline

/-! bytes(1) -/
theorem no_bytes_int : typeLookup (.type "int") "__bytes__" = pure none := by rw [typeLookup_type, builtinLookup_eq_fast]; kernel_rfl
theorem meets_bytes1 (t : Tok) : Meets (Builtin.«bytes.__new__» ⟨[.type "bytes", .int 1 t], []⟩) (fun A R s => ∀ t' k, R (.ok (.ret (.bytes #[0] t'))) { s with toks := k }) := by
  refine .of_wp fun prog w A R s h => ?_
  unfold Builtin.«bytes.__new__»
  refine wpAny_bind (wpAny_of_eq (a := true) rfl ?_)
  refine bm_if_false rfl ?_
  refine wpAny_bind (wpAny_of_eq F.bm_sub ?_)
  refine bm_if_false rfl ?_
  refine wpAny_bind (wpAny_of_eq (F.bm_bind _) ?_)
  refine wpAny_bind (wpAny_of_eq (a := ()) rfl ?_)
  refine wpAny_bind (wpAny_of_eq (a := ()) rfl ?_)
  refine bm_if_false rfl ?_
  have hb : specialOf (.int 1 t) "__bytes__" = pure none := by
    have e : specialOf (.int 1 t) "__bytes__" = typeLookup (.type "int") "__bytes__" := rfl
    rw [e, no_bytes_int]
  refine wpAny_bind (wpAny_of_eq hb ?_)
  refine wpAny_bind (wpAny_of_eq (a := false) rfl ?_)
  refine bm_if_false rfl ?_
  have hi : specialOf (.int 1 t) "__index__" = pure (some (.builtin "int.__index__")) := by
    have e : specialOf (.int 1 t) "__index__" = typeLookup (.type "int") "__index__" := rfl
    rw [e, int_index]
  refine wpAny_bind (wpAny_of_eq hi ?_)
  refine bm_if_false rfl ?_
  refine wpAny_bind (wpAny_attempt (wpAny_of_eq (a := (1 : Int)) rfl ?_))
  refine bm_if_false rfl ?_
  show wpAny _ _ (if (1 : Int) < 0 then _ else _) _ _ _
  rw [if_neg (by decide)]
  show wpAny _ _ (if (1 : Int) > 2 ^ 63 - 34 then _ else _) _ _ _
  rw [if_neg (by decide)]
  refine bm_if_false (by decide +kernel) ?_
  refine wpAny_bind (wpAny_rule ?_)
  refine wpAny_bind (wpAny_mkBytes ?_ (by decide +kernel))
  exact wpAny_pure ⟨_, rfl, h _ _⟩
theorem CallOk.bytes1 : CallOk c a σ (.typ "bytes") [.int 1] (.ok (.bytes [0], σ.own)) := .of fun g s v vs H hv hvs => by
  obtain rfl := hv.inv
  · obtain ⟨_, _, rfl, h, r⟩ := hvs.inv
    obtain rfl := r.inv; obtain ⟨_, rfl⟩ := h.inv
    exact callType_new F.bm_called (by decide +kernel) (F.bm_typeCall _) (F.bm_newCall _) (fun obj => F.args_object_init_2 obj _) F.bm_entry (meets_bytes1 _) fun t' k => ⟨typeIs_bytes _ _ _, g, Mv.toks H.stays _, .bytes [0] _⟩
end

section
open PySem PySem.W PySem.Calls PyProof.Rows PySem.SeqAt
variable {c : Cx} {a : Act} {g : Heap} {s : Shared} {σ : Sg}

theorem forIn_range_wp {M : Model} {A : Around} {E : Value → Shared → Prop} {β : Type} {n : Nat} {Q : β → Shared → Prop} (f : Nat → β → Sem (ForInStep β)) (I : Nat → β → Shared → Prop)
    (turn : ∀ i b s, i < n → I i b s → wpAny M A (f i b) (fun r s' => ∃ b', r = .yield b' ∧ I (i + 1) b' s') E s) (fin : ∀ b s, I n b s → Q b s) :
    ∀ (k i : Nat) (b : β) (s : Shared), i + k = n → I i b s → wpAny M A (forIn (List.range' i k) b f) Q E s
  | 0, i, b, s, e, h => by
    have : i = n := by omega
    subst this
    exact wpAny_pure (fin b s h)
  | k + 1, i, b, s, e, h => by
    rw [List.range'_succ, List.forIn_cons]
    refine wpAny_bind (wpAny_mono (turn i b s (by omega) h) (fun r s' ⟨b', q, h'⟩ => ?_) fun _ _ x => x)
    subst q
    exact forIn_range_wp f I turn fin k (i + 1) b' s' (by omega) h'

theorem slot_join : Slot "bytes" "join" "bytes.join" :=
  .of (owner := "bytes") (n := "join") (by rw [typeLookup_type, builtinLookup_eq_fast]; kernel_rfl) (by decide +kernel) (by decide +kernel) (by decide +kernel)
    (by first | exact .inl (by decide +kernel) | exact .inr (by decide +kernel)) (by rw [isSubtype_type]; kernel_rfl)
theorem type_join : typeOf (.builtin "bytes.join") = pure (.type "method_descriptor") := by show builtinType _ = _; rw [builtinType_eq_fast]; kernel_rfl
theorem entry_join : entryFor table "bytes.join" = some Builtin.«bytes.join» := entryFor_of_tree (by kernel_rfl)
theorem args_join (a b : Value) : argsOk "bytes.join" ⟨[a, b], []⟩ := by
  unfold argsOk; rw [signature?_of (id := "bytes.join") (n := ['n', 'i', 'o', 'j']) (o := ['s', 'e', 't', 'y', 'b']) (by kernel_rfl) FB.owner_bytes]; kernel_rfl
open Builtin in
theorem buffer_eqf {id : String} {b : Array UInt8} {t : Tok} {full : Bool} : Bytes.buffer? id (.bytes b t) full = pure (some b) := by
  unfold Bytes.buffer?
  rw [KBy.special_eq KBy.look_buffer, KBy.own_buffer, KBy.own_release]
  kernel_rfl
open Builtin in
theorem take_eq {id : String} {b : Array UInt8} {t : Tok} : Bytes.takeBufferQuiet? id (.bytes b t) 0 = pure (some (b, none)) := by
  unfold Bytes.takeBufferQuiet? Bytes.takeBuffer?
  rw [KBy.special_eq KBy.look_buffer, KBy.own_buffer]
  simp only [buffer_eqf]
  kernel_rfl

noncomputable def joinB (sep : List UInt8) (bs : List (List UInt8)) : List UInt8 := (Builtin.Bytes.joined sep.toArray (bs.map List.toArray)).toList
noncomputable def BytesAre (vs : List Value) (bs : List (List UInt8)) : Prop := vs.length = bs.length ∧ ∀ (i : Nat) (b : List UInt8), bs[i]? = some b → ∃ t, vs[i]? = some (Value.bytes b.toArray t)
theorem joinLetGo_ok {M : Model} {A : Around} {E : Value → Shared → Prop} {Q : Unit → Shared → Prop} : ∀ (vs : List Value) (keep : List Value), Q () s → wpAny M A (Builtin.Bytes.joinLetGo (vs.map fun v => (v, none)) keep) Q E s
  | [], keep, h => wpAny_pure h
  | v :: r, keep, h => by
    rw [List.map_cons]
    unfold Builtin.Bytes.joinLetGo
    dsimp only
    refine wpAny_bind (wpAny_letGo ?_)
    exact joinLetGo_ok r keep h
theorem meets_join (sep : List UInt8) (t : Tok) (l : Addr) (vs : List Value) (bs : List (List UInt8)) : Meets (Builtin.«bytes.join» ⟨[.bytes sep.toArray t, .ref l], []⟩)
    (fun A R s => s.heap.IsList l vs.toArray ∧ BytesAre vs bs ∧ (2 ≤ bs.length ∧ Builtin.Bytes.tooLong ((bs.map List.toArray).toArray.foldl (· + ·.size) (sep.toArray.size * ((bs.map List.toArray).toArray.size - 1))) = false ∧ (joinB sep bs).length ≤ 1000) ∧ ∀ t' k, R (.ok (.ret (.bytes (joinB sep bs).toArray t'))) { s with toks := k }) := by
  refine .of_wp fun prog w A R s hh => ?_
  obtain ⟨hl, hb, hz, h⟩ := hh
  obtain ⟨o, ho, hc, n, hd⟩ := id hl
  show wpAny _ _ (Builtin.Bytes.joinItems (.ref l) >>= fun seq => _) _ _ s
  unfold Builtin.Bytes.joinItems
  refine wpAny_bind (wpAny_bind (wpAny_typeOf hl.typeIs ?_))
  refine bm_if_true rfl ?_
  refine wpAny_pure ?_
  refine wpAny_bind (wpAny_seqItems ho hd ?_)
  dsimp only
  refine bm_if_true rfl ?_
  obtain ⟨v1, v2, r, hv⟩ : ∃ v1 v2 r, vs = v1 :: v2 :: r := by
    have := hb.1
    match vs, this with
    | [], e => simp at e; omega
    | [v], e => simp at e; omega
    | v1 :: v2 :: r, _ => exact ⟨v1, v2, r, rfl⟩
  have hmatch : ∀ {α : Sort 1} (f : Value → α) (k : α), (match vs.toArray with | #[x] => f x | _ => k) = k := fun f k => by
    rw [hv]
    first | rfl | (delta meets_join.match_1; rfl) | (with_unfolding_all rfl) | skip
  refine (show ∀ t t' : Sem PySem.Fin, t = t' → _ → wpAny _ _ t _ _ _ from fun t t' e h => e ▸ h) _ _ (hmatch _ _) ?_
  · refine wpAny_bind ?_
    rw [Std.Legacy.Range.forIn_eq_forIn_range']
    refine forIn_range_wp (n := vs.length) _ (fun i b s' => s' = s ∧ b.1 = ((bs.take i).map List.toArray).toArray ∧ b.2 = (vs.take i).map fun v => (v, none)) (fun i b s' hi ⟨e1, e2, e3⟩ => ?_) (fun b s' ⟨e1, e2, e3⟩ => ?_) _ _ _ _ (by simp [Std.Legacy.Range.size]) ⟨rfl, by simp, by simp⟩
    · subst e1
      refine wpAny_bind (wpAny_seqItems ho hd ?_)
      dsimp only
      obtain ⟨bi, hbi⟩ : ∃ bi, bs[i]? = some bi := by
        have := hb.1
        exact ⟨bs[i]'(by omega), by simp⟩
      obtain ⟨ti, hvi⟩ := hb.2 i bi hbi
      have hx : vs.toArray.getD i Value.none = .bytes bi.toArray ti := by
        rw [Array.getD_eq_getD_getElem?]; simp [hvi]
      have hall : (b.snd.any fun x => x.fst.onHeap) = false := by
        rw [e3, List.any_map, List.any_eq_false]
        intro v hv'
        obtain ⟨j, hj⟩ := List.mem_iff_getElem?.mp (List.mem_of_mem_take hv')
        have hjl : j < bs.length := by
          have := hb.1
          have := (List.getElem?_eq_some_iff.mp hj).1
          omega
        obtain ⟨tj, hvj⟩ := hb.2 j (bs[j]) (by simp)
        rw [hj] at hvj
        cases hvj
        simp [Value.onHeap]
      rw [hx]
      refine bm_if_false (by rw [hall]; rfl) ?_
      refine wpAny_bind (wpAny_holding (wpAny_of_eq take_eq ?_))
      dsimp only
      refine wpAny_bind (wpAny_seqItems ho hd ?_)
      dsimp only
      refine bm_if_false (by simp) ?_
      refine wpAny_pure ⟨_, rfl, rfl, ?_, ?_⟩
      · rw [e2, List.take_add_one, hbi]; simp
      · rw [e3, List.take_add_one, hvi]; simp
    · subst e1
      have hlen := hb.1
      obtain ⟨z1, z2, z3⟩ := hz
      rw [e2, e3, List.take_of_length_le (by omega), List.take_of_length_le (by omega)]
      refine wpAny_bind (wpAny_pure ?_)
      refine bm_if_false z2 ?_
      refine wpAny_bind (wpAny_mkBytes ?_ (by rw [sizeLine_eq]; unfold joinB at z3; simp at z3; simp; omega))
      refine wpAny_bind (wpAny_holding (wpAny_point ?_))
      refine wpAny_bind (joinLetGo_ok _ _ ?_)
      refine wpAny_pure ⟨_, rfl, ?_⟩
      have := h s'.toks (s'.toks + 1)
      unfold joinB at this
      simpa using this
theorem joinB_one (sep b : List UInt8) : joinB sep [b] = b := by
  unfold joinB Builtin.Bytes.joined
  simp
theorem meets_join1 (sep b : List UInt8) (t t1 : Tok) (l : Addr) : Meets (Builtin.«bytes.join» ⟨[.bytes sep.toArray t, .ref l], []⟩)
    (fun A R s => s.heap.IsList l [Value.bytes b.toArray t1].toArray ∧ R (.ok (.ret (.bytes b.toArray t1))) s) := by
  refine .of_wp fun prog w A R s hh => ?_
  obtain ⟨hl, h⟩ := hh
  obtain ⟨o, ho, hc, n, hd⟩ := id hl
  show wpAny _ _ (Builtin.Bytes.joinItems (.ref l) >>= fun seq => _) _ _ s
  unfold Builtin.Bytes.joinItems
  refine wpAny_bind (wpAny_bind (wpAny_typeOf hl.typeIs ?_))
  refine bm_if_true rfl ?_
  refine wpAny_pure ?_
  refine wpAny_bind (wpAny_seqItems ho hd ?_)
  dsimp only
  refine bm_if_true rfl ?_
  show wpAny _ _ (typeOf (Value.bytes b.toArray t1) >>= _) _ _ _
  refine wpAny_bind (wpAny_typeOf (typeIs_bytes _ _ _) ?_)
  refine bm_if_true rfl ?_
  exact wpAny_bind (wpAny_rule (wpAny_pure ⟨_, rfl, h⟩))

theorem RdAll.bytesAre : ∀ {vs : List Value} {bs : List (List UInt8)}, RdAll c g vs (bs.map .bytes) → BytesAre vs bs
  | [], [], _ => ⟨rfl, fun i b h => by simp at h⟩
  | [], b :: r, h => by cases h
  | v :: vs, [], h => by cases h
  | v :: vs, b :: r, h => by
    · obtain ⟨_, _, e0, h1, h2⟩ := h.inv
      cases e0
      obtain ⟨e1, e2⟩ := RdAll.bytesAre h2
      · obtain ⟨t, rfl⟩ := h1.inv
        refine ⟨by simp [e1], fun i x hx => ?_⟩
        cases i with
        | zero => simp at hx; subst hx; exact ⟨t, rfl⟩
        | succ i => simp at hx; simpa using e2 i x hx

/-- what may be joined -/
noncomputable def JoinOk (sep : List UInt8) (bs : List (List UInt8)) : Prop := 1 ≤ bs.length ∧ Builtin.Bytes.tooLong ((bs.map List.toArray).toArray.foldl (· + ·.size) (sep.toArray.size * ((bs.map List.toArray).toArray.size - 1))) = false ∧ (joinB sep bs).length ≤ 1000
theorem Ev.join {oe e1 : Expr} {apos pos : Pos} {sep : List UInt8} {bs : List (List UInt8)} (h1 : Ev c a σ oe (.ok (.bytes sep, σ.own))) (h2 : EvAll c a σ pos [e1] (.ok ([.lst (bs.map .bytes)], σ.own))) (hz : JoinOk sep bs)
    (hbase : attributeBase oe "join" a.env (eval oe a.env) = eval oe a.env := by rfl) (he : starEach [e1] a.env = (false, eval e1 a.env) :: starEach [] a.env := by rfl) (hplain : (backTo pos (starEach [] a.env)).any (·.1) = false := by rfl)
    (hfew : ((backTo pos (starEach [e1] a.env)).all (fun x => !x.1) && (backToKw pos (keywordEach [] a.env)).all (fun x => x.1.isSome)
      && decide (([e1] : List Expr).length + ([] : List Keyword).length + (if ([] : List Keyword).isEmpty then 0 else 1) < 30)) = true := by rfl) (hline : (apos.endLine == pos.line) = true := by rfl) :
    Ev c a σ (.Call (.Attribute oe "join" apos) [e1] [] pos) (.ok (.bytes (joinB sep bs), σ.own)) :=
  .meth (T := "bytes") (id := "bytes.join") h1 h2 FB.plainAttrs_bytes slot_join type_join (fun g s v H hv => by
    obtain ⟨_, rfl⟩ := hv.inv
    exact ⟨typeIs_bytes _ _ _, fun b e => nomatch e⟩) (fun g s v vs H hv hvs => by
    obtain ⟨_, _, rfl, hk, hr⟩ := hvs.inv
    obtain rfl := hr.inv
    obtain ⟨_, rfl⟩ := hv.inv
    · obtain ⟨_, _, rfl, hl, r⟩ := hk.inv
      have hl' := isList_up H.stays hl
      obtain ⟨z1, z2, z3⟩ := hz
      match bs, r, z1, z2, z3 with
      | [b], r, _, _, _ =>
        · obtain ⟨_, _, rfl, r1, r2⟩ := r.inv
          obtain rfl := r2.inv
          obtain ⟨_, rfl⟩ := r1.inv
          rw [joinB_one]
          exact call_meets slot_join (typeIs_bytes _ _ _) entry_join (args_join _ _) (meets_join1 _ _ _ _ _) ⟨hl', ⟨_, _, rfl, g, fun _ _ e => e, H, .bytes _ _⟩⟩
      | b1 :: b2 :: r', r, _, z2, z3 =>
        exact call_meets slot_join (typeIs_bytes _ _ _) entry_join (args_join _ _) (meets_join _ _ _ _ (b1 :: b2 :: r')) ⟨hl', r.bytesAre, ⟨by simp, z2, z3⟩, fun u' k => ⟨_, _, rfl, g, fun _ _ e => e, H.toks _, .bytes _ _⟩⟩) hbase he hplain hfew hline
end

section
open PySem PySem.W PySem.Calls PyProof.Rows PySem.SeqAt
variable {c : Cx} {a : Act} {g : Heap} {s : Shared} {σ : Sg}

theorem comp_inD {scope : Scope} {cl : List (PySem.Str × Addr)} {lc : List (PySem.Str × D)} {l : List (PySem.Str × D)} {ω ωi : Own} (H : St c a g s ⟨l, ω⟩) (cg : Caught a l scope cl lc) (hi : ∀ p ∈ ωi, p ∈ ω) (hnd : (ωi.map (·.1)).Nodup)
    {I Dl C : Addr} {h₁ : Heap} {k : Nat} {P : Heap → Prop} (keep : ∀ b o, s.heap.get? b = some o → h₁.get? b = some o) (hI : s.heap.get? I = none) (hD : s.heap.get? Dl = none) (hC : s.heap.get? C = none) (n1 : I ≠ Dl) (n2 : I ≠ C) (n3 : Dl ≠ C)
    (hns : ∃ m, h₁.Ns C m) (hraw : OwnAt c g h₁ I (.raw P)) (hacc : OwnAt c g h₁ Dl (.dct [])) :
    St c (compAct a scope cl C g s (ωi.map (·.1))) g { s with heap := h₁, toks := k } ⟨lc, ωi ++ [(I, .raw P), (Dl, .dct [])]⟩ := by
  obtain ⟨fenv, outer, f1, f2, f3⟩ := H.ok.frames
  obtain ⟨lf, hl, hF, hfr⟩ := H.fr
  have neN : ∀ {b o N}, s.heap.get? N = none → s.heap.get? b = some o → b ≠ N := fun hN e q => by rw [q, hN] at e; cases e
  have notF : ∀ N, s.heap.get? N = none → N ∉ a.F := fun N hN hb => by
    rw [hF] at hb
    obtain ⟨env, he, hf⟩ := List.mem_filterMap.mp hb
    obtain ⟨_, L, m, hL, _, oo, _, _, hoo, _⟩ := hfr env he
    rw [hL] at hf; cases hf; rw [hN] at hoo; cases hoo
  have notO : ∀ N, s.heap.get? N = none → N ∉ ωi.map (·.1) := fun N hN hb => by
    obtain ⟨p, hp, e⟩ := List.mem_map.mp hb
    obtain ⟨o, e'⟩ := (H.own.at_ p (hi p hp)).there
    rw [e, hN] at e'; cases e'
  have notC : ∀ N, s.heap.get? N = none → ∀ x, cl.lookup x ≠ some N := fun N hN x hx => by
    obtain ⟨_, _, v, o, e, _⟩ := H.cells x N (cg.sub x N hx)
    rw [hN] at e; cases e
  have bF : ∀ b ∈ ωi.map (·.1), b ∉ a.F ∧ ∃ o, s.heap.get? b = some o := fun b hb => by
    obtain ⟨p, hp, rfl⟩ := List.mem_map.mp hb; exact ⟨(H.own.out p (hi p hp)).2, (H.own.at_ p (hi p hp)).there⟩
  refine ⟨⟨H.ok.hd, H.ok.depth, H.ok.units, cg.kind, H.ok.globals, H.ok.builtins, H.wd, ⟨fenv, outer, f1, f2, f3⟩, H.ok.frame, bF⟩, Mv.same H.stays keep, ⟨lf, hl, hF, fun env he => ?_⟩, hns, H.g_new hC, notO C hC, hC, fun q => (by cases q), ?_, ?_, ?_, ?_, ⟨?_, ?_, ?_⟩, ?_⟩
  · obtain ⟨hk, L, m, hL, hg, hN⟩ := hfr env he
    exact ⟨hk, L, m, hL, hg, hN.keeps keep⟩
  · intro x b hx
    obtain ⟨h1, _, v, o, e, d⟩ := H.cells x b (cg.sub x b hx)
    refine ⟨h1, fun hb => ?_, v, o, keep _ _ e, d⟩
    obtain ⟨p, hp, e'⟩ := List.mem_map.mp hb
    exact (H.ownL p (hi p hp)).2.1 x (e' ▸ cg.sub x b hx)
  · intro x b hx
    refine ⟨(H.cellsF x b (cg.sub x b hx)).1, fun q => ?_⟩
    obtain ⟨_, _, v, o, e, d⟩ := H.cells x b (cg.sub x b hx)
    exact neN hC e q
  · intro x y b hx hy
    exact H.cellsA x y b (cg.sub x b hx) (cg.sub y b hy)
  · intro x d hx
    obtain ⟨h1, h2, ⟨b, hb⟩, h3⟩ := cg.names x d hx
    obtain ⟨v, hn, hr⟩ := H.loc x d h1
    refine ⟨v, ?_, hr⟩
    cases hn with
    | loc k _ _ => exact absurd k h2
    | @cell b' k hc e =>
      rw [cg.sub x b hb] at hc
      cases hc
      obtain ⟨o, e, d⟩ := e
      exact .cell h3 hb ⟨o, keep _ _ e, d⟩
  · intro p hp
    rcases List.mem_append.mp hp with hp | hp
    · exact (H.own.at_ p (hi p hp)).move (fun _ _ e => e) fun o e => keep _ o e
    · simp only [List.mem_cons, List.mem_singleton, List.not_mem_nil, or_false] at hp
      rcases hp with rfl | rfl
      · exact hraw
      · exact hacc
  · intro p hp
    rcases List.mem_append.mp hp with hp | hp
    · exact H.own.out p (hi p hp)
    · simp only [List.mem_cons, List.mem_singleton, List.not_mem_nil, or_false] at hp
      rcases hp with rfl | rfl
      · exact ⟨H.g_new hI, notF _ hI⟩
      · exact ⟨H.g_new hD, notF _ hD⟩
  · rw [List.map_append, List.nodup_append]
    refine ⟨hnd, by simpa using n1, fun x hx y hy => ?_⟩
    simp only [List.map_cons, List.map_nil, List.mem_cons, List.not_mem_nil, or_false] at hy
    rintro rfl
    rcases hy with rfl | rfl
    · exact notO _ hI hx
    · exact notO _ hD hx
  · intro p hp
    rcases List.mem_append.mp hp with hp | hp
    · refine ⟨?_, fun x hx => (H.ownL p (hi p hp)).2.1 x (cg.sub x _ hx), .inl (List.mem_map.mpr ⟨p, hp, rfl⟩)⟩
      obtain ⟨o, e⟩ := (H.own.at_ p (hi p hp)).there
      exact neN hC e
    · simp only [List.mem_cons, List.mem_singleton, List.not_mem_nil, or_false] at hp
      rcases hp with rfl | rfl
      · exact ⟨n2, notC _ hI, .inr hI⟩
      · exact ⟨n3, notC _ hD, .inr hD⟩


inductive DTurns (c : Cx) (b : Act) (lc : List (PySem.Str × D)) (target : Expr) (ifs : List Expr) (kx vx : Expr) : List (List UInt8 × D) → List D → List (List UInt8 × D) → Prop
  | nil {acc : List (List UInt8 × D)} : DTurns c b lc target ifs kx vx acc [] acc
  | skip {acc fin : List (List UInt8 × D)} {d : D} {ds : List D} {l₁ : List (PySem.Str × D)} : (∀ ζ, As c b ⟨lc, ζ⟩ target d ⟨l₁, ζ⟩) → (∀ x d, lc.lookup x = some d → l₁.lookup x = some d) →
      (∀ ζ, Tst c b ⟨l₁, ζ⟩ ifs (.ok (false, ζ))) → DTurns c b lc target ifs kx vx acc ds fin → DTurns c b lc target ifs kx vx acc (d :: ds) fin
  | take {acc fin : List (List UInt8 × D)} {d e : D} {k : List UInt8} {ds : List D} {l₁ : List (PySem.Str × D)} : (∀ ζ, As c b ⟨lc, ζ⟩ target d ⟨l₁, ζ⟩) → (∀ x d, lc.lookup x = some d → l₁.lookup x = some d) →
      (∀ ζ, Tst c b ⟨l₁, ζ⟩ ifs (.ok (true, ζ))) → (∀ ζ, Ev c b ⟨l₁, ζ⟩ kx (.ok (.bytes k, ζ))) → (∀ ζ, Ev c b ⟨l₁, ζ⟩ vx (.ok (e, ζ))) → DTurns c b lc target ifs kx vx (storedD acc k e) ds fin → DTurns c b lc target ifs kx vx acc (d :: ds) fin
theorem storedD_len (l : List (List UInt8 × D)) (k : List UInt8) (d : D) : (storedD l k d).length ≤ l.length + 1 := by unfold storedD; split <;> simp

theorem codeAny_compLoop_mineD {R : Result → Shared → Prop} {prog : Program} {w : World} {A : Around} {kx vx target iter : Expr} {ifs : List Expr} {scope : Scope} {pos : Pos} {it : Value} {Dl : Addr} {env : Env} (I : Nat → Shared → Prop)
    (turn : ∀ n s, I n s → wpAny (model prog w) A (pyNext it) (fun r s₁ => match r with
      | none => R (.ok .next) s₁
      | some v => wpAny (model prog w) A (letOwnedTupleGo target it v) (fun _ s₁' => wpAny (model prog w) A (assign target env v) (fun _ s₂ =>
          wpAny (model prog w) A (forIn ifs true fun c r => if r = true then do let ok ← isTrue c env (eval c env); pure (ForInStep.yield ok) else pure (ForInStep.yield r)) (fun ok s₃ =>
            if ok = true then wpAny (model prog w) A (eval kx env) (fun kv s₄ => wpAny (model prog w) A (eval vx env) (fun vv s₅ =>
              wpAny (model prog w) A (dictSet Dl kv vv) (fun _ s₆ => ∃ m, m < n ∧ I m s₆) (notedBy (model prog w) A env fun e s' => R (.error e) s') s₅) (notedBy (model prog w) A env fun e s' => R (.error e) s') s₄) (notedBy (model prog w) A env fun e s' => R (.error e) s') s₃
            else ∃ m, m < n ∧ I m s₃) (notedBy (model prog w) A env fun e s' => R (.error e) s') s₂) (notedBy (model prog w) A env fun e s' => R (.error e) s') s₁') (notedBy (model prog w) A env fun e s' => R (.error e) s') s₁) (notedBy (model prog w) A env fun e s' => R (.error e) s') s)
    (n : Nat) (h : I n s) : codeAny (model prog w) A (.compLoop (.DictComp kx vx [⟨target, iter, ifs, 0⟩] scope pos) 0 it (.ref Dl) env) R s := by
  refine codeAny_loop rfl I (fun n s hI => ?_) n h
  show wpAny _ A ((compTurn (.DictComp kx vx [⟨target, iter, ifs, 0⟩] scope pos) 0 it (.ref Dl) env).onRaise (fun x => do noteFrame x env; theTreesLotGoes x)) _ _ s
  refine wpAny_noted ?_
  rw [compTurn_dict]
  refine wpAny_bind (wpAny_standAt (wpAny_bind (wpAny_mono (turn n s hI) (fun r s₁ h₁ => ?_) fun _ _ h' => h')))
  cases r with
  | none => exact wpAny_pure h₁
  | some v =>
    refine wpAny_bind (wpAny_mono h₁ (fun _ s₁' h₁' => ?_) fun _ _ h' => h')
    refine wpAny_bind (wpAny_mono h₁' (fun _ s₂ h₂ => wpAny_bind (wpAny_mono h₂ (fun ok s₃ h₃ => ?_) fun _ _ h' => h')) fun _ _ h' => h')
    cases ok with
    | false => exact wpAny_pure ⟨rfl, h₃⟩
    | true =>
      exact wpAny_bind (wpAny_bind (wpAny_mono h₃ (fun kv s₄ h₄ => wpAny_bind (wpAny_holding (wpAny_mono h₄ (fun vv s₅ h₅ => wpAny_bind (wpAny_standAt (wpAny_holding (wpAny_mono h₅ (fun _ s₆ h₆ => wpAny_pure ⟨rfl, h₆⟩) fun _ _ h' => h')))) fun _ _ h' => h'))) fun _ _ h' => h'))

theorem dcomp_loop {R : Result → Shared → Prop} {b : Act} {I Dl : Addr} {S : Nat → Heap → Prop} {kx vx target iter : Expr} {ifs : List Expr} {scope : Scope} {pos : Pos} {lc : List (PySem.Str × D)} {ds : List D} {fin : List (List UInt8 × D)} (W : Iter c I g ds S)
    (H : St c b g s ⟨lc, [] ++ [(I, .raw (S 0)), (Dl, .dct [])]⟩) (t : DTurns c b lc target ifs kx vx [] ds fin) (hz : ds.length ≤ 1000)
    (hok : ∀ g' s', g.StaysIn g' → St c b g' s' ⟨lc, [] ++ [(Dl, .dct fin)]⟩ → R (.ok .next) s')
    (hI0 : b.s0.heap.get? I = none) : codeAny c.M b.A (.compLoop (.DictComp kx vx [⟨target, iter, ifs, 0⟩] scope pos) 0 (.ref I) (.ref Dl) b.env) R s := by
  refine codeAny_compLoop_mineD (fun n s' => ∃ i gi acc, n + i = ds.length ∧ acc.length ≤ i ∧ DTurns c b lc target ifs kx vx acc (ds.drop i) fin ∧ g.StaysIn gi ∧ St c b gi s' ⟨lc, [] ++ [(I, .raw (S i)), (Dl, .dct acc)]⟩) (fun n s' hI' => ?_) ds.length
    ⟨0, g, [], by simp, by simp, by simpa using t, fun _ _ e => e, H⟩
  obtain ⟨i, gi, es, hn, hle, ht, kg, Hi⟩ := hI'
  have sti : S i s'.heap := by
    have := Hi.own.at_ (I, .raw (S i)) (by simp)
    cases this with
    | raw _ h => exact h _ Hi.stays fun _ e => e
  have ks : g.StaysIn s'.heap := fun b o e => Hi.stays b o (kg b o e)
  by_cases hend : i = ds.length
  · subst hend
    rw [List.drop_length] at ht
    cases ht
    refine W.done b.A s' _ _ Hi.ok.hd ks sti fun h' tk' hk => ?_
    refine hok gi _ kg ?_
    exact Hi.remove (ω₁ := []) (ω₂ := [(Dl, .dct fin)]) hk hI0
  · have hlt : i < ds.length := by omega
    have hdrop : ds.drop i = ds[i] :: ds.drop (i + 1) := List.drop_eq_getElem_cons hlt
    rw [hdrop] at ht
    generalize hd : ds[i] = d' at ht
    have hget : ds[i]? = some d' := by rw [List.getElem?_eq_getElem hlt, hd]
    refine W.item b.A i s' d' _ _ Hi.ok.hd hget ks sti fun v h' tk' hv st' hk => ?_
    have H₃ : St c b gi { s' with heap := h', toks := tk' } ⟨lc, [] ++ [(I, .raw (S (i + 1))), (Dl, .dct es)]⟩ :=
      Hi.replace (ω₁ := []) (ω₂ := [(Dl, .dct es)]) hk (.raw (W.there _ _ st') fun h'' k e => W.stay (i + 1) h' h'' st' e fun b o e => k b o (kg b o e))
    refine W.letgo b.A (i + 1) _ target v _ _ st' ?_
    have asg : ∀ {l₁ : List (PySem.Str × D)}, (∀ ζ, As c b ⟨lc, ζ⟩ target d' ⟨l₁, ζ⟩) → ∀ (K : Shared → Prop), (∀ g₄ s₄, gi.StaysIn g₄ → St c b g₄ s₄ ⟨l₁, [] ++ [(I, .raw (S (i + 1))), (Dl, .dct es)]⟩ → K s₄) →
        wpAny c.M b.A (assign target b.env v) (fun _ s₄ => K s₄) (notedBy c.M b.A b.env fun e s' => R (.error e) s') { s' with heap := h', toks := tk' } := fun hA K hK =>
      wpAny_mono ((hA _).run gi _ v H₃ (hv.up kg)) (fun _ s₄ ⟨g₄, k₄, H₄⟩ => hK g₄ s₄ k₄ H₄) fun _ _ e => e.elim
    cases ht with
    | skip hA hl hT hrest =>
      refine asg hA _ fun g₄ s₄ k₄ H₄ => ?_
      refine (hT _).then H₄ (fun s₅ g₅ k₅ H₅ => ?_)
      exact ⟨ds.length - (i + 1), by omega, i + 1, g₅, es, by omega, by omega, hrest, fun b o z => k₅ b o (k₄ b o (kg b o z)), H₅.forgetLoc hl⟩
    | @take _ _ _ e k _ l₁ hA hl hT hK hV hrest =>
      refine asg hA _ fun g₄ s₄ k₄ H₄ => ?_
      refine (hT _).then H₄ (fun s₅ g₅ k₅ H₅ => ?_)
      refine (hK _).then H₅ (fun x s₆ g₆ k₆ H₆ r₆ => ?_)
      refine (hV _).then H₆ (fun y s₇ g₇ k₇ H₇ r₇ => ?_)
      obtain ⟨_, rfl⟩ := r₆.inv
      have hD := H₇.own.at_ (Dl, .dct es) (by simp)
      · obtain ⟨kvs, hp, hr, hne⟩ := hD.inv
        have hlen := hr.length
        refine wpAny_dictSet_pairs (key_is (c := c) k _) hp (fun h₈ hp₈ hs₈ => ?_) (by rw [sizeLine_eq]; omega)
        refine ⟨ds.length - (i + 1), by omega, i + 1, g₇, storedD es k e, by omega, by have := storedD_len es k e; omega, hrest, fun b o z => k₇ b o (k₆ b o (k₅ b o (k₄ b o (kg b o z)))), ?_⟩
        have H₇' : St c b g₇ s₇ ⟨l₁, [(I, .raw (S (i + 1)))] ++ (Dl, .dct es) :: []⟩ := H₇
        have := H₇'.replace (ω₁ := [(I, .raw (S (i + 1)))]) (ω₂ := []) (p := Dl) (d := .dct es) (d' := .dct (storedD es k e)) (k := s₇.toks + 1) (h' := h₈) (fun b o hb z => hs₈.extBut b o hb z) (.dct hp₈ (hr.stored k r₇) hne)
        exact this.forgetLoc hl

theorem dcomp_all {kx vx target iter : Expr} {ifs : List Expr} {scope : Scope} {pos : Pos} {cl : List (PySem.Str × Addr)} {lc : List (PySem.Str × D)} {d : D} {ds : List D} {ω : Own} {fin : List (List UInt8 × D)} {Q : Value → Shared → Prop} {E : Value → Shared → Prop} {fpos : Pos}
    (h : Ev c a σ iter (.ok (d, ω))) (hit : Iterable c d ds) (cg : Caught a σ.loc scope cl lc) (hz : ds.length ≤ 1000)
    (t : ∀ C g0 s0, DTurns c (compAct a scope cl C g0 s0 []) lc target ifs kx vx [] ds fin)
    (H : St c a g s σ)
    (hQ : ∀ C Dl g'' s'', g.StaysIn g'' → a.s0.heap.get? C = none → St c a g'' s'' ⟨σ.loc, (C, .raw (NsAt C)) :: ω⟩ → Rd c g'' (.ref Dl) (.dct fin) → compPost c.M a.A E none Q (.ref Dl) C (.ok .next) s'')
    (hs : ∀ x, foldedSetIterable iter a.env x = pure x := by intro _; rfl) :
    wpAny c.M a.A (comprehension (.DictComp kx vx [⟨target, iter, ifs, 0⟩] scope pos) scope a.env fpos newDict false (eval iter a.env) none) Q E s := by
  have hi : ∀ p ∈ ([] : Own), p ∈ ω := fun p hp => by cases hp
  have hnd : (([] : Own).map (·.1)).Nodup := by simp
  refine wpAny_comprehension_free (cl := cl) rfl hs cg.clo cg.kind cg.locals (h.then H (fun v s₁ g₁ k₁ H₁ r₁ => ?_))
  refine hit.run a g₁ s₁ _ v _ _ H₁ r₁ fun ob S tk hfr W st => ?_
  generalize hI : s₁.heap.objs.size = I at W st ⊢
  refine wpAny_newObj_type (hd := by size_fits) (wpAny_newFunctionEnv cg.cell (by intro y hy; simp at hy) (fun h₁ hns₁ hsb₁ => ?_) cg.kind)
  dsimp only at hns₁ hsb₁ ⊢
  generalize hH1 : s₁.heap.push ob = H1 at hns₁ hsb₁ st ⊢
  have hD : H1.objs.size = I + 1 := by rw [← hH1, Heap.size_push, hI]
  generalize hH2 : H1.push { cls := .type "dict", dict := none, data := .dict #[] } = H2 at hns₁ hsb₁ ⊢
  have hC : H2.objs.size = I + 2 := by rw [← hH2, Heap.size_push, hD]
  generalize hDn : H1.objs.size = Dl at hD ⊢
  generalize hCn : H2.objs.size = C at hC hns₁ hsb₁ ⊢
  have lt1 : ∀ b o, s₁.heap.get? b = some o → b < I := fun b o e => hI ▸ Heap.lt_size e
  have none_of : ∀ b, I ≤ b → s₁.heap.get? b = none := fun b hb => by
    cases q : s₁.heap.get? b with
    | none => rfl
    | some o => exact absurd (lt1 b o q) (Nat.not_lt.mpr hb)
  have n1 : I ≠ Dl := by rw [hD]; exact Nat.ne_of_lt (Nat.lt_succ_self _)
  have n2 : I ≠ C := by rw [hC]; exact Nat.ne_of_lt (Nat.lt_add_of_pos_right (by decide))
  have n3 : Dl ≠ C := by rw [hD, hC]; exact Nat.ne_of_lt (Nat.lt_succ_self _)
  have up1 : ∀ b o, s₁.heap.get? b = some o → H1.get? b = some o := fun b o e => hH1 ▸ Heap.get?_push_of_some _ e
  have up2 : ∀ b o, H1.get? b = some o → H2.get? b = some o := fun b o e => hH2 ▸ Heap.get?_push_of_some _ e
  have up3 : ∀ b o, b ≠ C → H2.get? b = some o → h₁.get? b = some o := fun b o hb e => hsb₁.extBut b o hb (Heap.get?_push_of_some _ e)
  have cI : s₁.heap.get? I = none := none_of I (Nat.le_refl _)
  have cD : s₁.heap.get? Dl = none := none_of _ (by rw [hD]; exact Nat.le_succ _)
  have cC : s₁.heap.get? C = none := none_of _ (by rw [hC]; exact Nat.le_add_right _ _)
  have keep : ∀ b o, s₁.heap.get? b = some o → h₁.get? b = some o := fun b o e => up3 b o (fun q => by rw [q, cC] at e; cases e) (up2 b o (up1 b o e))
  have kI : ∀ o, H1.get? I = some o → h₁.get? I = some o := fun o e => up3 I o n2 (up2 I o e)
  have gs : g₁.StaysIn h₁ := fun b o e => keep b o (H₁.stays b o e)
  have st1 : S 0 h₁ := W.stay 0 H1 h₁ st kI gs
  have raw : OwnAt c g₁ h₁ I (.raw (S 0)) := .raw (W.there 0 h₁ st1) fun h'' k e => W.stay 0 h₁ h'' st1 e k
  have acc : OwnAt c g₁ h₁ Dl (.dct []) := .dct (kvs := []) (by
    have : H2.DictOf (bytesKind c.prog c.w) Dl [] := by rw [← hH2, ← hDn]; exact Heap.DictOf.new H1
    exact this.at fun o e => up3 Dl o n3 e) .nil (by
    obtain ⟨b, o, hb, ho⟩ := c.mods H₁.wd
    have h1 := lt1 b o (H₁.stays _ _ ho)
    cases q : Dl == sysModules with
    | false => rfl
    | true =>
      have e := eq_of_beq q
      rw [hD] at e
      rw [← e] at hb
      exact absurd hb (Nat.not_lt.mpr (Nat.le_succ_of_le (Nat.le_of_lt h1))))
  have Hin := comp_inD (scope := scope) (cl := cl) (lc := lc) (k := tk + ([] : List (PySem.Str × Value)).length) H₁ cg hi hnd keep cI cD cC n1 n2 n3 ⟨_, hns₁⟩ raw acc
  have loop : codeAny c.M a.A (.compLoop (.DictComp kx vx [⟨target, iter, ifs, 0⟩] scope pos) 0 (.ref I) (.ref Dl) (compEnvC scope cl C a.env)) (compPost c.M a.A E none Q (.ref Dl) C) { s₁ with heap := h₁, toks := tk + ([] : List (PySem.Str × Value)).length } := by
    refine dcomp_loop (b := compAct a scope cl C g₁ s₁ (([] : Own).map (·.1))) W Hin (t C g₁ s₁) hz (fun g' s' k' H' => ?_) cI
    have hb := comp_back (k := s'.toks) H₁ hi H' cC (Heap.SameBut.refl ..) ω (fun p hp => .inl ⟨hp, by simp⟩) H₁.own.apart
    have there : ∀ q ∈ ω, ∃ o, s₁.heap.get? q.1 = some o := fun q hq => (H₁.own.at_ q hq).there
    have neN : ∀ N, s₁.heap.get? N = none → ∀ q ∈ ω, q.1 ≠ N := fun N hN q hq e => by obtain ⟨o, e'⟩ := there q hq; rw [e, hN] at e'; cases e'
    have hm : (Dl, D.dct fin) ∈ ([] : Own) ++ [(Dl, .dct fin)] := by simp
    have h2 := H₁.adopt hb (p := Dl) (d := .dct fin) cD (H'.own.out _ hm).1 ((H'.own.at_ _ hm).move (fun _ _ e => e) fun _ e => e) (neN Dl cD)
    have h2' : St c a g' { s' with heap := s'.heap, toks := s'.toks } ⟨σ.loc, [] ++ (Dl, .dct fin) :: ω⟩ := h2
    obtain ⟨g'', k'', h3, hr, hold⟩ := h2'.freeze (fun hb => by
      obtain ⟨o, e⟩ := (H₁.ok.box Dl hb).2
      rw [H₁.s0_new cD] at e; cases e) .dct
    have gC : g''.get? C = none := (hold C (Ne.symm n3)).trans H'.nl
    have h4 := H₁.adopt h3 (p := C) (d := .raw (NsAt C)) cC gC (.raw (let ⟨m, o, _, _, e, _⟩ := H'.ns; ⟨o, e⟩) fun h'' _ e => let ⟨m, hm⟩ := H'.ns; ⟨m, hm.at' e⟩) (fun q hq => neN C cC q hq)
    exact hQ C Dl g'' s' (fun b o e => k'' b o (k' b o (k₁ b o e))) (H₁.s0_new cC) h4 hr
  exact codeAny_compStart_dict loop (W.self a.A 0 _ _ _ H₁.ok.hd gs st1 loop)

theorem Ev.dcomp {kx vx target iter : Expr} {ifs : List Expr} {scope : Scope} {pos : Pos} {cl : List (PySem.Str × Addr)} {lc : List (PySem.Str × D)} {d : D} {ds : List D} {fin : List (List UInt8 × D)}
    (h : Ev c a σ iter (.ok (d, σ.own))) (hit : Iterable c d ds) (cg : Caught a σ.loc scope cl lc) (hz : ds.length ≤ 1000)
    (t : ∀ C g0 s0, DTurns c (compAct a scope cl C g0 s0 []) lc target ifs kx vx [] ds fin)
    (hs : ∀ x, foldedSetIterable iter a.env x = pure x := by intro _; rfl) : Ev c a σ (.DictComp kx vx [⟨target, iter, ifs, 0⟩] scope pos) (.ok (.dct fin, σ.own)) := .mk fun g s H => by
  rw [arm_eval_DictComp]
  refine dcomp_all h hit cg hz t H (fun C Dl g'' s'' k hC H' hr => ?_) hs
  obtain ⟨m, hm⟩ : NsAt C s''.heap := by
    have := H'.own.at_ (C, .raw (NsAt C)) (.head _)
    cases this with
    | raw _ h => exact h _ H'.stays fun _ e => e
  refine ⟨m, hm, fun h' hs' => ⟨_, _, rfl, g'', k, ?_, hr⟩⟩
  exact H'.remove (ω₁ := []) (k := s''.toks) (fun b o hb e => hs'.extBut b o hb e) hC
end

section
open PySem PySem.W PySem.Calls PyProof.Rows PySem.SeqAt
variable {c : Cx} {a : Act} {g : Heap} {s : Shared} {σ : Sg}

/-! a call of a known function out of a known state -/
theorem call_at {f : FuncData} {names : List PySem.Str} {body : List Stmt} (hf : FnData c f names body) {n : Nat} {ds : List D} {r : Out D} (hlen : ds.length = names.length) (hn : n + 1 ≤ a.n)
    {v : Value} {vs : List Value} (H : St c a g s σ) (hv : Rd c g v (.fn f)) (hvs : RdAll c g vs ds)
    (hb : ∀ A m L fa, n ≤ m → s.heap.get? L = none → Body c (actOf f A m L fa (L :: a.F) g s []) ⟨names.zip ds, []⟩ body r []) :
    wpAny c.M a.A (call v vs []) (fun r' s' => ∃ d ω, r.with σ.own = .ok (d, ω) ∧ ∃ g', g.StaysIn g' ∧ St c a g' s' ⟨σ.loc, ω⟩ ∧ Rd c g' r' d) (Er c a g (r.with σ.own)) s := by
  · obtain ⟨fa, fo, rfl, hfa, hfd⟩ := hv.inv
    obtain ⟨fenv, outer, h1, h2, h3⟩ := H.ok.frames
    obtain ⟨l, hl, hF, hfr⟩ := H.fr
    rw [h1] at hl; cases hl
    have hd := H.ok.depth
    have hu := H.ok.units
    refine wpAny_call (codeAny_call_cells (vals := vs) (binds := names.zip vs) ?_ (H.stays _ _ hfa) hfd ((c.nolim H.wd).keeps H.stays) ((hf.code g H.wd).keeps H.stays) hf.body ?_ hf.clo ?_ ?_ hf.co hf.gen hf.kind)
    · show _ < 1000; omega
    · exact hf.bind vs (by rw [hvs.length, hlen])
    · intro x hx
      have hx' : x.1 ∈ names := (List.of_mem_zip hx).1
      exact (hf.kinds _ hx').imp id fun q => ⟨q.1, q.2 _⟩
    · intro s₁ hin
      generalize hL : s.heap.objs.size = L at hin ⊢
      have hLn : s.heap.get? L = none := by rw [← hL]; exact new_at_size
      have ok : St c (actOf f (a.A.deeper (callEnvC f L fa)) (a.n - 1) L fa (L :: a.F) g s []) g s₁ ⟨names.zip ds, []⟩ :=
        enter_ok (ωi := []) (body := body) hf H hvs hlen (fun p hp => by cases hp) (by simp) rfl H.ok.hd (by omega) (by omega) hL hin
      have back : ∀ g' s' (σ' : Sg), g.StaysIn g' → St c (actOf f (a.A.deeper (callEnvC f L fa)) (a.n - 1) L fa (L :: a.F) g s []) g' s' σ' → ∀ ω'' : Own, (∀ p ∈ ω'', p ∈ σ.own) → (ω''.map (·.1)).Nodup → St c a g' s' ⟨σ.loc, ω''⟩ := by
        intro g' s' σ' k H' ω'' h1 h2
        have m' : Mv a.F [] g s g' s' := H'.mv.mono (fun b hb => .inl hb) (fun b hb => (List.mem_cons.mp hb).elim (fun q => .inr (q ▸ hLn)) .inl) fun b hb => .tail _ hb
        exact H.back m' (fun b hb => by cases hb) ω'' (fun p hp => .inl ⟨h1 p hp, by simp⟩) h2
      refine wpAny_mono ((hb (a.A.deeper (callEnvC f L fa)) (a.n - 1) L fa (by omega) hLn).run g s₁ ok) (fun fl s' h => ?_) fun e s' h => ?_
      · obtain ⟨d, rfl, g', σ', k, H', hfl, hout⟩ := h
        have fin : ∀ v, Rd c g' v d → ∃ d' ω, Out.with (.ok d) σ.own = .ok (d', ω) ∧ ∃ g', g.StaysIn g' ∧ St c a g' s' ⟨σ.loc, ω⟩ ∧ Rd c g' v d' := fun v hv =>
          ⟨d, σ.own, rfl, g', k, back g' s' σ' k H' σ.own (fun p hp => hp) H.own.apart, hv⟩
        rcases hfl with ⟨rfl, rfl⟩ | ⟨rfl, rfl⟩ | ⟨v, rfl, hv⟩
        · exact fin _ .none
        · exact fin _ .none
        · exact fin _ hv
      · obtain ⟨q, h⟩ := h
        refine leave_ok (a := actOf f (a.A.deeper (callEnvC f L fa)) (a.n - 1) L fa (L :: a.F) g s []) (o := r) ⟨q, h⟩ fun s'' ⟨_, g', σ', k, H', fl⟩ => ?_
        subst q
        refine ⟨rfl, g', ⟨σ.loc, []⟩, k, back g' s'' σ' k H' [] (fun p hp => by cases hp) (by simp), ?_⟩
        obtain ⟨e', oe, vs', dx, mx, tk', x1, x2, x3, x4, x5, x6, x7, x8, x9, x10, x11⟩ := fl.ex
        refine ⟨e', oe, vs', dx, mx, tk', x1, x2, H.s0_new x3, x4, x5, x6, x7, x8, x9, ⟨fun q => x10.1 (.tail _ q), H.s0_new x10.2.1, fun q => ?_⟩, .inr ?_⟩
        · obtain ⟨o, e⟩ := H.L_there; rw [← q, x10.2.1] at e; cases e
        rcases x11 with ⟨z, _⟩ | ⟨T, oT, ts, f', q', t1, t2, t3⟩
        · cases z
        · exact ⟨T, oT, ts, f', q', t1, H.s0_new t2, t3⟩

/-! lambdas -/
/-- f is the function of a lambda -/
noncomputable def LamAt (g : Heap) (qual : PySem.Str) (params : Arguments) (body : Expr) (scope : Scope) (clos : List (PySem.Str × Addr)) (f : FuncData) : Prop :=
  ∃ pm c' ctv, f = kla_fn "<lambda>" qual params body scope clos pm (.ref c') ctv ∧ g.CodeRec (.ref c') qual
theorem LamAt.up {g g' : Heap} {qual : PySem.Str} {params : Arguments} {body : Expr} {scope : Scope} {clos : List (PySem.Str × Addr)} {f : FuncData} (k : g.StaysIn g') (h : LamAt g qual params body scope clos f) : LamAt g' qual params body scope clos f :=
  let ⟨pm, c', ctv, e, r⟩ := h; ⟨pm, c', ctv, e, r.keeps k⟩
/-- the table of a code that has made nothing yet -/
noncomputable def tabD (P : Addr) : D := .raw fun h => h.get? P = some (tabObj #[])
/-- the same table, grown or not -/
noncomputable def grownD (P : Addr) : D := .raw fun h => ∃ ps, h.get? P = some (tabObj ps)
theorem grown_own {P : Addr} {h : Heap} {ps : Array Value} (e : h.get? P = some (tabObj ps)) : OwnAt c g h P (grownD P) := .raw ⟨_, e⟩ fun h' _ k => ⟨ps, k _ e⟩
theorem St.tabAt {P : Addr} (H : St c a g s σ) (hP : (P, tabD P) ∈ σ.own) : s.heap.get? P = some (tabObj #[]) := by
  have := H.own.at_ _ hP
  unfold tabD at this
  cases this with
  | raw _ h => exact h _ H.stays fun _ e => e
theorem St.grow {l : List (PySem.Str × D)} {ω₁ ω₂ : Own} {P : Addr} (H : St c a g s ⟨l, ω₁ ++ (P, tabD P) :: ω₂⟩) : St c a g s ⟨l, ω₁ ++ (P, grownD P) :: ω₂⟩ :=
  H.replace (h' := s.heap) (k := s.toks) (fun _ _ _ e => e) (grown_own (H.tabAt (by simp)))
/-- the module of the builtins, as the main names tell it -/
noncomputable def BmAt (c : Cx) (g : Heap) : Prop := ∃ bm o, c.mg "__builtins__" = some (.ref bm) ∧ bm ≠ builtinsNs ∧ bm ≠ mainGlobals ∧ g.get? bm = some o ∧ o.cls = .type "module" ∧ o.dict = some builtinsNs ∧ o.data = .plain
theorem lam_made (H : St c a g s σ) {P cd : Addr} {ω' : Own} {params : Arguments} {body : Expr} {scope : Scope} {pos : Pos} {clos : List (PySem.Str × Addr)} {E : Value → Shared → Prop} (hP : (P, tabD P) ∈ σ.own) (hω : ∀ q ∈ ω', (q ∈ σ.own ∧ q.1 ≠ P) ∨ q = (P, grownD P)) (nd : (ω'.map (·.1)).Nodup)
    (hcode : a.env.code = .ref cd) (hC : CodeHd g cd P) (hbm : BmAt c g) (hcl : closureFor scope a.env = pure clos) (hdef : defaultsOf params a.env = ([], [])) :
    wpAny c.M a.A (eval (.Lambda params body scope pos) a.env) (fun v s' => ∃ f g', g.StaysIn g' ∧ St c a g' s' ⟨σ.loc, ω'⟩ ∧ Rd c g' v (.fn f) ∧ LamAt g' (a.env.qual ++ "<lambda>") params body scope clos f) E s := by
  have gP : g.get? P = none := (H.own.out _ hP).1
  have PF : P ∉ a.F := (H.own.out _ hP).2
  have sP := H.tabAt hP
  obtain ⟨bm, ob, b1, b2, b3, b4, b5⟩ := hbm
  have ns := (c.glob H.wd)
  have nsG : mainGlobals ≠ P := fun q => by obtain ⟨o, _, _, e, _⟩ := ns; rw [q, gP] at e; cases e
  refine kla_eval hdef (kla_makeFunction (mg := c.mg) (ps := #[]) hcl H.ok.globals (ns.keeps H.stays) hcode (hC.keeps H.stays) sP trivial rfl nsG ⟨bm, ob, b1, b2, b3, fun q => (by rw [q, gP] at b4; cases b4), H.stays _ _ b4, b5⟩ fun c' ctv h' tk hx hge hlt hrec htb => ?_)
  generalize ho : kla_obj "<lambda>" (a.env.qual ++ "<lambda>") params body scope clos ((c.mg "__name__").getD .none) c' ctv = o
  have hf : o.isFreed = false := by rw [← ho]; rfl
  generalize hh : h'.push o = h''
  have keep : ∀ b o', b ≠ P → s.heap.get? b = some o' → h''.get? b = some o' := fun b o' hb e => by rw [← hh]; exact Heap.get?_push_of_some _ (hx b o' hb e)
  have fget : h''.get? h'.objs.size = some o := by rw [← hh]; exact Heap.get?_push_size _ hf
  have cnew : s.heap.get? c' = none := Heap.get?_none_of_le hge
  have fnew : s.heap.get? h'.objs.size = none := Heap.get?_none_of_le (Nat.le_of_lt (Nat.lt_of_le_of_lt hge hlt))
  have hrec' : h''.CodeRec (.ref c') (a.env.qual ++ "<lambda>") := by rw [← hh]; exact hrec.keeps fun b o e => Heap.get?_push_of_some _ e
  have k' : g.StaysIn h'' := fun b o e => keep b o (fun q => by rw [q, gP] at e; cases e) (H.stays b o e)
  have hPg : h''.get? P = some (tabObj (#[] ++ #[rawInt pos.line, rawInt pos.col, .ref c'])) := by rw [← hh]; exact Heap.get?_push_of_some _ htb
  have hP'' : ∃ o', h''.get? P = some o' := ⟨_, hPg⟩
  have m : Mv a.F [P] g s (addTo g h'' [c', h'.objs.size]) { s with heap := h'', toks := tk } := by
    have nin : ∀ b o', s.heap.get? b = some o' → b ∉ [c', h'.objs.size] := fun b o' e q => by
      simp only [List.mem_cons, List.not_mem_nil, or_false] at q
      rcases q with rfl | rfl
      · rw [cnew] at e; cases e
      · rw [fnew] at e; cases e
    refine ⟨addTo_up k' _, addTo_in _ _ _, fun b o' e => addTo_old k' (nin b o' e), fun b o' e => ?_, fun b o' hb _ e => keep b o' (by simpa using hb) e, fun b mm hb _ e => e.at' fun o' e => keep b o' (by simpa using hb) e, rfl, rfl⟩
    by_cases hb : b = P
    · subst hb; exact hP''
    · exact ⟨o', keep b o' hb e⟩
  refine ⟨_, _, m.gg, H.back m (fun b hb => ⟨_, (List.mem_singleton.mp hb) ▸ hP⟩) ω' (fun q hq => (hω q hq).imp (fun z => ⟨z.1, by simpa using z.2⟩) fun z => by rw [z]; exact ⟨by simp, grown_own hPg⟩) nd, .fn (addTo_new fget (by simp)) (by rw [← ho]), ⟨_, c', ctv, rfl, ?_⟩⟩
  obtain ⟨c₂, oc, vs, t, e2, hoc, hd, hv⟩ := hrec'
  cases e2
  exact ⟨c', oc, vs, t, rfl, addTo_new hoc (by simp), hd, hv⟩

@[reducible] noncomputable def lamAct (qual : PySem.Str) (scope : Scope) (clos : List (PySem.Str × Addr)) (A : Around) (m : Nat) (L fa c' : Addr) (F : List Addr) (g0 : Heap) (s0 : Shared) : Act :=
  { A := A, n := m, env := envX qual scope L fa (.ref c') clos, F := F, g0 := g0, s0 := s0, box := [], full := false }
/-- what a lambda has caught, as it stands in the heap -/
noncomputable def CapsAt (c : Cx) (g h : Heap) (F : List Addr) (scope : Scope) (caps : List (PySem.Str × Addr × D)) : Prop :=
  ∀ q ∈ caps, g.get? q.2.1 = none ∧ q.2.1 ∉ F ∧ (∃ w, h.IsCell q.2.1 (some w) ∧ Rd c g w q.2.2) ∧ scope.names.lookup q.1 = some .free
theorem capsC_mem {caps : List (PySem.Str × Addr × D)} {x : PySem.Str} {b : Addr} (h : (capsC caps).lookup x = some b) : ∃ d, (x, b, d) ∈ caps := by
  induction caps with
  | nil => cases h
  | cons q r ih =>
    obtain ⟨y, e, d⟩ := q
    unfold capsC at h
    rw [List.lookup_cons] at h
    cases k : x == y with
    | true => rw [k] at h; cases h; rw [eq_of_beq k]; exact ⟨d, .head _⟩
    | false => rw [k] at h; obtain ⟨d', h'⟩ := ih h; exact ⟨d', .tail _ h'⟩
theorem capsL_mem {caps : List (PySem.Str × Addr × D)} {x : PySem.Str} {d : D} (h : (capsL caps).lookup x = some d) : ∃ b, (x, b, d) ∈ caps ∧ (capsC caps).lookup x = some b := by
  induction caps with
  | nil => cases h
  | cons q r ih =>
    obtain ⟨y, e, d'⟩ := q
    unfold capsL at h
    unfold capsC
    rw [List.lookup_cons] at h ⊢
    cases k : x == y with
    | true => rw [k] at h; cases h; rw [eq_of_beq k]; exact ⟨e, .head _, rfl⟩
    | false => rw [k] at h; obtain ⟨b, h1, h2⟩ := ih h; exact ⟨b, .tail _ h1, h2⟩

theorem call_lam {qual : PySem.Str} {params : Arguments} {body : Expr} {scope : Scope} {caps : List (PySem.Str × Addr × D)} {f : FuncData} {names : List PySem.Str} {n : Nat} {ds : List D} {r : Out D} (hlen : ds.length = names.length) (hn : n + 1 ≤ a.n)
    {v : Value} {vs : List Value} (H : St c a g s σ) (hv : Rd c g v (.fn f)) (hvs : RdAll c g vs ds) (hl : LamAt g qual params body scope (capsC caps) f)
    (hbind : ∀ pm cv ctv (vs : List Value), vs.length = names.length → bindArgs (kla_fn "<lambda>" qual params body scope (capsC caps) pm cv ctv) ⟨vs, []⟩ = pure (names.zip vs)) (nodup : names.Nodup) (hloc : ∀ x ∈ names, scope.names.lookup x = some .local)
    (hcell : ∀ x ∈ scope.names, x.2 ≠ .cell) (hkind : scope.kind = .function) (hco : scope.isCoroutine = false) (hgen : scope.isGenerator = false)
    (hcap : CapsAt c g s.heap a.F scope caps) (hnd : ((capsC caps).map (·.2)).Nodup)
    (hb : ∀ A m L fa c' F g0 s0, n ≤ m → Ev c (lamAct qual scope (capsC caps) A m L fa c' F g0 s0) ⟨names.zip ds ++ capsL caps, []⟩ body (r.with [])) :
    wpAny c.M a.A (call v vs []) (fun r' s' => ∃ d ω, r.with σ.own = .ok (d, ω) ∧ ∃ g', g.StaysIn g' ∧ St c a g' s' ⟨σ.loc, ω⟩ ∧ Rd c g' r' d) (Er c a g (r.with σ.own)) s := by
  obtain ⟨fa, fo, rfl, hfa, hfd⟩ := hv.inv
  obtain ⟨pm, c', ctv, rfl, hrec⟩ := hl
  obtain ⟨fenv, outer, h1, h2, h3⟩ := H.ok.frames
  obtain ⟨l, hl, hF, hfr⟩ := H.fr
  rw [h1] at hl; cases hl
  have hd := H.ok.depth
  have hu := H.ok.units
  refine wpAny_call (kla_callFunE ?_ (H.stays _ _ hfa) hfd hco hgen rfl (hrec.keeps H.stays) ?_)
  · show _ < 1000; omega
  rw [hbind pm _ ctv vs (by rw [hvs.length, hlen])]
  refine wpAny_pure (wpAny_newFunctionEnv hcell (fun x hx => hloc _ (List.of_mem_zip hx).1) (fun h₁ hns hsb => ?_) hkind)
  generalize hL : s.heap.objs.size = L at hns hsb ⊢
  have hLn : s.heap.get? L = none := by rw [← hL]; exact new_at_size
  have keep : ∀ b o, s.heap.get? b = some o → h₁.get? b = some o := fun b o e => hsb.extBut b o (fun q => by rw [q, hLn] at e; cases e) (Heap.get?_push_of_some _ e)
  refine ⟨((c.nolim H.wd).keeps H.stays).keeps keep, ?_⟩
  generalize hA : a.A.deeper (envX qual scope L fa (.ref c') (capsC caps)) = A'
  have Fg : ∀ b ∈ a.F, ∃ o, s.heap.get? b = some o := fun b hb => by
    rw [hF] at hb
    obtain ⟨env, he, hf⟩ := List.mem_filterMap.mp hb
    obtain ⟨_, L', m, hL', hg, o, _, _, ho, _⟩ := hfr env he
    rw [hL'] at hf; cases hf; exact ⟨o, ho⟩
  have capg : ∀ x b, (capsC caps).lookup x = some b → ∃ d, (x, b, d) ∈ caps := fun x b h => capsC_mem h
  have len : vs.length = names.length := by rw [hvs.length, hlen]
  have nodupZ : ((names.zip vs).map (·.1)).Nodup := by rw [List.map_fst_zip (by omega)]; exact nodup
  have m₁ : Mv (L :: a.F) [] g s g { s with heap := h₁, toks := s.toks + (names.zip vs).length } := Mv.same H.stays keep rfl rfl
  have ok : St c (lamAct qual scope (capsC caps) A' (a.n - 1) L fa c' (L :: a.F) g s) g { s with heap := h₁, toks := s.toks + (names.zip vs).length } ⟨names.zip ds ++ capsL caps, []⟩ := by
    subst hA
    refine ⟨⟨H.ok.hd, ?_, ?_, hkind, rfl, rfl, H.wd, ⟨envX qual scope L fa (.ref c') (capsC caps), fenv :: outer, ?_, rfl, ?_⟩, ⟨L, rfl⟩, fun b hb => (by cases hb)⟩, m₁, ⟨envX qual scope L fa (.ref c') (capsC caps) :: fenv :: outer, ?_, ?_, ?_⟩, ⟨_, hns⟩, H.g_new hLn, (by simp), hLn, fun q => (by cases q), ?_, ?_, ?_, ?_, ⟨fun p hp => (by cases hp), fun p hp => (by cases hp), by simp⟩, fun p hp => (by cases hp)⟩
    · show a.A.depth + 1 + 10 * (a.n - 1) ≤ 900; omega
    · show a.A.units + 3 + 100 * (a.n - 1) ≤ 9000; omega
    · show a.A.frames.map _ = _; rw [h1]; rfl
    · show L :: a.F = _; rw [h3]; rfl
    · show a.A.frames.map _ = _; rw [h1]; rfl
    · show L :: a.F = _; rw [h3]; rfl
    · intro env he
      rcases List.mem_cons.mp he with q | q
      · subst q
        refine ⟨?_, L, _, rfl, H.g_new hLn, hns⟩
        show scope.kind ≠ _; rw [hkind]; decide
      · obtain ⟨hk, L', m, hL', hg, hN⟩ := hfr env q
        exact ⟨hk, L', m, hL', hg, hN.keeps keep⟩
    · intro x b hb
      obtain ⟨d, hd⟩ := capg x b hb
      obtain ⟨q1, q2, ⟨w, q3, q4⟩, q5⟩ := hcap _ hd
      exact ⟨q1, by simp, _, q3.keeps keep⟩
    · intro x b hb
      obtain ⟨d, hd⟩ := capg x b hb
      obtain ⟨q1, q2, ⟨w, ⟨o, q3, _⟩, q4⟩, q5⟩ := hcap _ hd
      have : b ≠ L := fun q => by
        have q3' : s.heap.get? b = some o := q3
        rw [q, hLn] at q3'; cases q3'
      refine ⟨fun q => ?_, this⟩
      rcases List.mem_cons.mp q with q | q
      · exact this q
      · exact q2 q
    · intro x y b hx hy
      have key : ∀ {cl : List (PySem.Str × Addr)}, (cl.map (·.2)).Nodup → ∀ {x y : PySem.Str}, (x, b) ∈ cl → (y, b) ∈ cl → x = y := by
        intro cl
        induction cl with
        | nil => intro _ x y h; cases h
        | cons q t ih =>
          intro hn x y h1 h2
          rw [List.map_cons, List.nodup_cons] at hn
          rcases List.mem_cons.mp h1 with e1 | e1
          · rcases List.mem_cons.mp h2 with e2 | e2
            · rw [← e1] at e2; exact (congrArg Prod.fst e2).symm
            · exact absurd (List.mem_map.mpr ⟨_, e2, by rw [← e1]⟩) hn.1
          · rcases List.mem_cons.mp h2 with e2 | e2
            · exact absurd (List.mem_map.mpr ⟨_, e1, by rw [← e2]⟩) hn.1
            · exact ih hn.2 e1 e2
      exact key hnd (mem_of_lookup hx) (mem_of_lookup hy)
    · intro x d hx
      have hsplit : (names.zip ds).lookup x = some d ∨ (capsL caps).lookup x = some d := by
        generalize names.zip ds = zs at hx
        induction zs with
        | nil => exact .inr hx
        | cons q t ih =>
          obtain ⟨y, e⟩ := q
          rw [List.cons_append, List.lookup_cons] at hx
          rw [List.lookup_cons]
          cases k : x == y with
          | true => rw [k] at hx; exact .inl hx
          | false => rw [k] at hx; exact ih hx
      rcases hsplit with hx | hx
      · obtain ⟨v, hv, hr⟩ := zip_lookup hvs hx
        have hmem : x ∈ names := (List.of_mem_zip (mem_of_lookup hv)).1
        have rl : (names.zip vs).reverse.lookup x = some v := by
          have rk : ∀ {zs : List (PySem.Str × Value)}, (zs.map (·.1)).Nodup → zs.lookup x = some v → zs.reverse.lookup x = some v := by
            intro zs
            induction zs with
            | nil => intro _ h; cases h
            | cons q t ih =>
              obtain ⟨y, e⟩ := q
              intro hn h
              rw [List.map_cons, List.nodup_cons] at hn
              rw [List.reverse_cons, List.lookup_append]
              rw [List.lookup_cons] at h
              cases k : x == y with
              | true =>
                rw [k] at h; cases h
                have : t.reverse.lookup x = none := by
                  cases q : t.reverse.lookup x with
                  | none => rfl
                  | some z =>
                    have := mem_of_lookup q
                    exact absurd (List.mem_map.mpr ⟨_, List.mem_reverse.mp this, eq_of_beq k⟩) hn.1
                rw [this]; simp [List.lookup_cons, k]
              | false =>
                rw [k] at h
                rw [ih hn.2 h]; rfl
          exact rk nodupZ hv
        exact ⟨v, .loc (hloc x hmem) hns rl, hr⟩
      · obtain ⟨b, hm, hc⟩ := capsL_mem hx
        obtain ⟨q1, q2, ⟨w, q3, q4⟩, q5⟩ := hcap _ hm
        exact ⟨w, .cell (.inr q5) hc (q3.keeps keep), q4⟩
  have back : ∀ g' s' (σ' : Sg), g.StaysIn g' → St c (lamAct qual scope (capsC caps) A' (a.n - 1) L fa c' (L :: a.F) g s) g' s' σ' → ∀ ω'' : Own, (∀ p ∈ ω'', p ∈ σ.own) → (ω''.map (·.1)).Nodup → St c a g' s' ⟨σ.loc, ω''⟩ := by
    intro g' s' σ' k H' ω'' h1 h2
    have m' : Mv a.F [] g s g' s' := H'.mv.mono (fun b hb => .inl hb) (fun b hb => (List.mem_cons.mp hb).elim (fun q => .inr (q ▸ hLn)) .inl) fun b hb => .tail _ hb
    exact H.back m' (fun b hb => by cases hb) ω'' (fun p hp => .inl ⟨h1 p hp, by simp⟩) h2
  have hEv := (hb A' (a.n - 1) L fa c' (L :: a.F) g s (by omega)).run g _ ok
  subst hA
  refine kla_codeExpr ?_
  refine wpAny_mono hEv (fun v' s' h => ?_) fun e s' h => ?_
  · obtain ⟨d, ω, q, g', k, H', hr⟩ := h
    cases r with
    | err => cases q
    | ok d0 => cases q; exact ⟨d, σ.own, rfl, g', k, back g' s' _ k H' σ.own (fun p hp => hp) H.own.apart, hr⟩
  · obtain ⟨q, h⟩ := h
    cases r with
    | ok d0 => cases q
    | err =>
      refine leave_ok (a := lamAct qual scope (capsC caps) (a.A.deeper (envX qual scope L fa (.ref c') (capsC caps))) (a.n - 1) L fa c' (L :: a.F) g s) (o := (.err : Out D)) ⟨rfl, h⟩ fun s'' ⟨_, g', σ', k, H', fl⟩ => ?_
      refine ⟨rfl, g', ⟨σ.loc, []⟩, k, back g' s'' σ' k H' [] (fun p hp => by cases hp) (by simp), ?_⟩
      obtain ⟨e', oe, vs', dx, mx, tk', x1, x2, x3, x4, x5, x6, x7, x8, x9, x10, x11⟩ := fl.ex
      refine ⟨e', oe, vs', dx, mx, tk', x1, x2, H.s0_new x3, x4, x5, x6, x7, x8, x9, ⟨fun q => x10.1 (.tail _ q), H.s0_new x10.2.1, fun q => ?_⟩, .inr ?_⟩
      · obtain ⟨o, e⟩ := H.L_there; rw [← q, x10.2.1] at e; cases e
      rcases x11 with ⟨z, _⟩ | ⟨T, oT, ts, f', q', t1, t2, t3⟩
      · cases z
      · exact ⟨T, oT, ts, f', q', t1, H.s0_new t2, t3⟩
end

section
open PySem PySem.W PySem.Calls PyProof.Rows PySem.SeqAt
variable {c : Cx} {a : Act} {g : Heap} {s : Shared} {σ : Sg}

/-! enumerate -/
noncomputable def enumD : Nat → List D → List D
  | _, [] => []
  | i, d :: r => .tup [.int i, d] :: enumD (i + 1) r
theorem enumD_len : ∀ (i : Nat) (l : List D), (enumD i l).length = l.length
  | _, [] => rfl
  | i, d :: r => by unfold enumD; simp [enumD_len (i + 1) r]
theorem enumD_get : ∀ (l : List D) (k i : Nat) (e : D), (enumD k l)[i]? = some e → ∃ d, l[i]? = some d ∧ e = .tup [.int ((k + i : Nat) : Int), d]
  | [], k, i, e, h => by simp [enumD] at h
  | d :: r, k, i, e, h => by
    unfold enumD at h
    cases i with
    | zero => simp at h; exact ⟨d, by simp, h.symm⟩
    | succ i =>
      simp at h
      obtain ⟨d', h1, h2⟩ := enumD_get r (k + 1) i e h
      exact ⟨d', by simpa using h1, by rw [h2, show k + 1 + i = k + (i + 1) from by omega]⟩

theorem enum_call {x : PySem.Str} {p pos : Pos} {e1 : Expr} {row : List D} {Q : Value → Shared → Prop} {E : Value → Shared → Prop} (h0 : Ev c a σ (.Name x p) (.ok (.typ "enumerate", σ.own))) (h1 : EvAll c a σ pos [e1] (.ok ([.lst row], σ.own)))
    (he : starEach [e1] a.env = (false, eval e1 a.env) :: starEach [] a.env) (hplain : (backTo pos (starEach [] a.env)).any (·.1) = false) (H : St c a g s σ)
    (hQ : ∀ g₁ s₁ l vs h', g.StaysIn g₁ → St c a g₁ s₁ σ → g₁.IsList l (List.toArray vs) → RdAll c g₁ vs row → IsEnum h' (s₁.heap.objs.size + 1) s₁.heap.objs.size 0 .none → h'.IsListIter s₁.heap.objs.size l 0 → h'.objs.size = s₁.heap.objs.size + 2 →
      (∀ b o, s₁.heap.get? b = some o → h'.get? b = some o) → Q (.ref (s₁.heap.objs.size + 1)) { s₁ with heap := h' }) : wpAny c.M a.A (eval (.Call (.Name x p) [e1] [] pos) a.env) Q E s := by
  refine Call_Name rfl (h0.then H (fun v s₁ g₁ k₁ H₁ r₁ => ?_))
  refine callWith_of (P := fun h => g₁.StaysIn h) ?_ (keeper_of (f := .typ "enumerate") trivial r₁) ?_
  · rw [he]; show ((false || (backTo pos (starEach [] a.env)).any (·.1)) || false) = false; rw [hplain]; rfl
  · rw [he]
    refine evalArgs_plain (h1.args he H₁ fun vs s₂ g₂ k₂ H₂ r₂ => ?_)
    refine ⟨fun b o e => H₂.stays b o (k₂ b o e), ?_⟩
    obtain rfl := r₁.inv
    · obtain ⟨_, _, rfl, hv, hr⟩ := r₂.inv
      obtain rfl := hr.inv
      · obtain ⟨l, ws, rfl, hl, hr⟩ := hv.inv
        exact call_enumerate_list (isList_up H₂.stays hl) fun h' he' hit hsz hk => hQ g₂ s₂ l ws h' (fun b o e => k₂ b o (k₁ b o e)) H₂ hl hr he' hit hsz hk

noncomputable abbrev enE (e it : Addr) (i : Nat) : Heap → Prop := fun h => ∃ old, IsEnum h e it (i : Int) old
noncomputable abbrev enI (it l : Addr) (i : Nat) : Heap → Prop := fun h => h.IsListIter it l i
noncomputable abbrev enW (e it l : Addr) (i : Nat) : Own := [(it, .raw (enI it l i)), (e, .raw (enE e it i))]
theorem enE_own {e it : Addr} {i : Nat} {h : Heap} (x : enE e it i h) : OwnAt c g h e (.raw (enE e it i)) :=
  .raw (let ⟨_, q⟩ := x; ⟨_, q⟩) fun h' _ k => let ⟨old, q⟩ := x; ⟨old, k _ q⟩
theorem enI_own {it l : Addr} {i : Nat} {h : Heap} (x : enI it l i h) : OwnAt c g h it (.raw (enI it l i)) :=
  .raw (let ⟨_, q, _⟩ := x; ⟨_, q⟩) fun h' _ k => x.at k
theorem St.rawAt {p : Addr} {P : Heap → Prop} (H : St c a g s σ) (h : (p, D.raw P) ∈ σ.own) : P s.heap := by
  have := H.own.at_ _ h
  cases this with
  | raw _ h => exact h _ H.stays fun _ e => e

theorem en_item {e it l : Addr} {vs : List Value} {row : List D} {g0 : Heap} {lc : List (PySem.Str × D)} {ω₂ : Own} {i : Nat} {d : D} {elts : List Expr} {k : Nat} {pos : Pos} {K : Shared → Prop} {K' : Value → Shared → Prop} {E : Value → Shared → Prop} (hei : e ≠ it) (hl : g0.IsList l (List.toArray vs)) (hr : RdAll c g0 vs row) (k0 : g0.StaysIn g)
    (H : St c a g s ⟨lc, enW e it l i ++ ω₂⟩) (hd : row[i]? = some d) (hK : ∀ v g' s', g.StaysIn g' → Rd c g' v (.tup [.int i, d]) → St c a g' s' ⟨lc, enW e it l (i + 1) ++ ω₂⟩ → K' v s') :
    wpAny c.M a.A (pyNext (.ref e)) (fun r s₁ => ∃ v, r = some v ∧ wpAny c.M a.A (letOwnedTupleGo (.Tuple elts k pos) (.ref e) v) (fun _ s₂ => K' v s₂) E s₁) E s := by
  obtain ⟨old, hE⟩ : enE e it i s.heap := H.rawAt (p := e) (by simp)
  have hI : enI it l i s.heap := H.rawAt (p := it) (by simp)
  have hL : s.heap.IsList l (List.toArray vs) := isList_up H.stays (isList_up k0 hl)
  obtain ⟨w, hw, hrw⟩ := hr.get hd
  have gl : g.IsList l (List.toArray vs) := isList_up k0 hl
  refine wpAny_pyNext_enum_item hE hI hL (x := w) (by simpa using hw) hei fun h' ho hit' hT hsz hk => ⟨_, rfl, ?_⟩
  generalize hTn : s.heap.objs.size = T at ho hT hsz ⊢
  refine wpAny_letOwnedTupleGo_enum ho fun h'' he'' hs'' => ?_
  have Tnew : s.heap.get? T = none := by rw [← hTn]; exact new_at_size
  have eT : e ≠ T := fun q => by
    have hE' : s.heap.get? e = some _ := hE
    rw [q, Tnew] at hE'; cases hE'
  have iT : it ≠ T := fun q => by obtain ⟨o, x, _⟩ := hI; rw [q, Tnew] at x; cases x
  have keep : ∀ b o, b ∉ [e, it] → s.heap.get? b = some o → h''.get? b = some o := fun b o hb x => by
    simp only [List.mem_cons, List.not_mem_nil, or_false, not_or] at hb
    exact (hs''.2 b hb.1).trans (hk b o hb.1 hb.2 x)
  have hT' : h''.get? T = some { cls := .type "tuple", data := .seq #[.int i s.toks, w] } := (hs''.2 T eT.symm).trans hT
  have hit'' : enI it l (i + 1) h'' := hit'.at fun o x => (hs''.2 it hei.symm).trans x
  have hE'' : enE e it (i + 1) h'' := ⟨_, by simpa using he''⟩
  have g_e : g.get? e = none := (H.own.out (e, .raw (enE e it i)) (by simp)).1
  have g_it : g.get? it = none := (H.own.out (it, .raw (enI it l i)) (by simp)).1
  have k' : g.StaysIn h'' := fun b o x => keep b o (fun q => by
    simp only [List.mem_cons, List.not_mem_nil, or_false] at q
    rcases q with rfl | rfl
    · rw [g_e] at x; cases x
    · rw [g_it] at x; cases x) (H.stays b o x)
  have m : Mv a.F [e, it] g s (addTo g h'' [T]) { s with heap := h'', toks := s.toks + 1 } := by
    have nin : ∀ b o, s.heap.get? b = some o → b ∉ [T] := fun b o x q => by rw [List.mem_singleton.mp q, Tnew] at x; cases x
    refine ⟨addTo_up k' _, addTo_in _ _ _, fun b o x => addTo_old k' (nin b o x), fun b o x => ?_, fun b o hb _ x => keep b o hb x, fun b mm hb _ x => x.at' fun o x => keep b o hb x, rfl, rfl⟩
    by_cases hb : b ∈ [e, it]
    · simp only [List.mem_cons, List.not_mem_nil, or_false] at hb
      rcases hb with rfl | rfl
      · exact ⟨_, hE''.choose_spec⟩
      · obtain ⟨o, x, _⟩ := hit''; exact ⟨o, x⟩
    · exact ⟨o, keep b o hb x⟩
  have nd := H.own.apart
  refine hK (.ref T) _ _ m.gg (.tup (vs := [.int i s.toks, w]) ⟨_, addTo_new hT' (by simp), rfl, _, rfl⟩ (.cons (.int _ _) (.cons ((hrw.up k0).up m.gg) .nil))) ?_
  refine H.back m (fun b hb => ?_) _ (fun q hq => ?_) (by simpa using nd)
  · simp only [List.mem_cons, List.not_mem_nil, or_false] at hb
    rcases hb with rfl | rfl
    · exact ⟨.raw (enE b it i), by simp⟩
    · exact ⟨.raw (enI b l i), by simp⟩
  · rcases List.mem_append.mp hq with hq | hq
    · simp only [List.mem_cons, List.not_mem_nil, or_false] at hq
      rcases hq with rfl | rfl
      · exact .inr ⟨by simp, enI_own hit''⟩
      · exact .inr ⟨by simp, enE_own hE''⟩
    · refine .inl ⟨List.mem_append_right _ hq, fun hb => ?_⟩
      rw [List.map_append, List.nodup_append] at nd
      simp only [List.mem_cons, List.not_mem_nil, or_false] at hb
      exact nd.2.2 q.1 (by simpa using hb.symm) q.1 (List.mem_map.mpr ⟨q, hq, rfl⟩) rfl

theorem en_done {e it l : Addr} {vs : List Value} {g0 : Heap} {lc : List (PySem.Str × D)} {ω₂ : Own} {K : Shared → Prop} {E : Value → Shared → Prop} (hl : g0.IsList l (List.toArray vs)) (k0 : g0.StaysIn g)
    (H : St c a g s ⟨lc, enW e it l vs.length ++ ω₂⟩) (h0 : a.s0.heap.get? it = none) (hK : ∀ s', St c a g s' ⟨lc, ω₂⟩ → K s') :
    wpAny c.M a.A (pyNext (.ref e)) (fun r s₁ => r = none ∧ K s₁) E s := by
  obtain ⟨old, hE⟩ : enE e it vs.length s.heap := H.rawAt (p := e) (by simp)
  have hI : enI it l vs.length s.heap := H.rawAt (p := it) (by simp)
  have hL : s.heap.IsList l (List.toArray vs) := isList_up H.stays (isList_up k0 hl)
  refine wpAny_pyNext_enum_end H.ok.hd hE hI hL (by simp) fun h' hx => ⟨rfl, hK _ ?_⟩
  have H1 : St c a g { s with heap := h', toks := s.toks } ⟨lc, [] ++ ((e, .raw (enE e it vs.length)) :: ω₂)⟩ := H.remove (ω₁ := []) (p := it) hx h0
  exact H1.forgetOwn (ω₁ := []) (p := e)

theorem St.adoptN (H : St c a g s σ) {p : Addr} {d : D} (h0 : a.s0.heap.get? p = none) (hF : p ∉ a.F) (hL : p ≠ a.env.locals) (hC : ∀ x, a.env.cells.lookup x ≠ some p) (hg : g.get? p = none) (ho : OwnAt c g s.heap p d) (hk : ∀ q ∈ σ.own, q.1 ≠ p) : St c a g s ⟨σ.loc, (p, d) :: σ.own⟩ := by
  refine ⟨H.ok, H.mv, H.fr, H.ns, H.nl, H.nb, H.newL, H.newC, H.cells, H.cellsF, H.cellsA, H.loc, ⟨fun q hq => ?_, fun q hq => ?_, ?_⟩, fun q hq => ?_⟩
  · rcases List.mem_cons.mp hq with rfl | hq
    · exact ho
    · exact H.own.at_ q hq
  · rcases List.mem_cons.mp hq with rfl | hq
    · exact ⟨hg, hF⟩
    · exact H.own.out q hq
  · simp only [List.map_cons, List.nodup_cons]
    refine ⟨fun hm => ?_, H.own.apart⟩
    obtain ⟨q, hq, e⟩ := List.mem_map.mp hm
    exact hk q hq e
  · rcases List.mem_cons.mp hq with rfl | hq
    · exact ⟨hL, hC, .inr h0⟩
    · exact H.ownL q hq

/-- the turns of a comprehension that changes nothing owned -/
inductive PTurns (c : Cx) (b : Act) (lc : List (PySem.Str × D)) (target : Expr) (ifs : List Expr) (elt : Expr) : List D → List D → Prop
  | nil : PTurns c b lc target ifs elt [] []
  | skip {d : D} {ds es : List D} {l₁ : List (PySem.Str × D)} : (∀ ζ, As c b ⟨lc, ζ⟩ target d ⟨l₁, ζ⟩) → (∀ x d, lc.lookup x = some d → l₁.lookup x = some d) →
      (∀ ζ, Tst c b ⟨l₁, ζ⟩ ifs (.ok (false, ζ))) → PTurns c b lc target ifs elt ds es → PTurns c b lc target ifs elt (d :: ds) es
  | take {d e : D} {ds es : List D} {l₁ : List (PySem.Str × D)} : (∀ ζ, As c b ⟨lc, ζ⟩ target d ⟨l₁, ζ⟩) → (∀ x d, lc.lookup x = some d → l₁.lookup x = some d) →
      (∀ ζ, Tst c b ⟨l₁, ζ⟩ ifs (.ok (true, ζ))) → (∀ ζ, Ev c b ⟨l₁, ζ⟩ elt (.ok (e, ζ))) → PTurns c b lc target ifs elt ds es → PTurns c b lc target ifs elt (d :: ds) (e :: es)

theorem en_loop {R : Result → Shared → Prop} {e it l Dl : Addr} {vs : List Value} {row : List D} {elts : List Expr} {kk : Nat} {tp : Pos} {elt iter : Expr} {ifs : List Expr} {scope : Scope} {pos : Pos} {lc : List (PySem.Str × D)} {es : List D} {b : Act} {g0 : Heap} (hei : e ≠ it) (hl : g0.IsList l (List.toArray vs)) (hr : RdAll c g0 vs row)
    (k0 : g0.StaysIn g) (H : St c b g s ⟨lc, enW e it l 0 ++ [(Dl, .lst [])]⟩) (t : PTurns c b lc (.Tuple elts kk tp) ifs elt (enumD 0 row) es) (hz : row.length ≤ 1000)
    (hok : ∀ g' s', g.StaysIn g' → St c b g' s' ⟨lc, [(Dl, .lst es)]⟩ → R (.ok .next) s') (hI0 : b.s0.heap.get? it = none) : codeAny c.M b.A (.compLoop (.ListComp elt [⟨.Tuple elts kk tp, iter, ifs, 0⟩] scope pos) 0 (.ref e) (.ref Dl) b.env) R s := by
  have hzl := enumD_len 0 row
  refine codeAny_compLoop_mine (fun n s' => ∃ i gi es₁ es₂, n + i = row.length ∧ es₁.length ≤ i ∧ PTurns c b lc (.Tuple elts kk tp) ifs elt ((enumD 0 row).drop i) es₂ ∧ es = es₁ ++ es₂ ∧ g.StaysIn gi ∧ St c b gi s' ⟨lc, enW e it l i ++ [(Dl, .lst es₁)]⟩) (fun n s' hI' => ?_) row.length
    ⟨0, g, [], es, by simp, by simp, by simpa using t, by simp, fun _ _ e => e, H⟩
  obtain ⟨i, gi, es₁, es₂, hn, hle, ht, hoi, kg, Hi⟩ := hI'
  have kgi : g0.StaysIn gi := fun b o e => kg b o (k0 b o e)
  by_cases hend : i = row.length
  · subst hend
    rw [← hzl, List.drop_length] at ht
    cases ht
    have Hi' : St c b gi s' ⟨lc, enW e it l vs.length ++ [(Dl, .lst es₁)]⟩ := by rw [hr.length]; exact Hi
    refine wpAny_mono (en_done (K := R (.ok .next)) hl kgi Hi' hI0 fun s'' H'' => hok gi s'' kg (by rw [hoi]; simpa using H'')) (fun r s₁ h => ?_) fun _ _ h => h
    obtain ⟨rfl, h⟩ := h
    exact h
  · have hlt : i < row.length := by omega
    have hlt' : i < (enumD 0 row).length := by omega
    have hdrop : (enumD 0 row).drop i = (enumD 0 row)[i] :: (enumD 0 row).drop (i + 1) := List.drop_eq_getElem_cons hlt'
    rw [hdrop] at ht
    generalize hd : (enumD 0 row)[i] = d' at ht
    obtain ⟨d, hd1, hd2⟩ := enumD_get row 0 i d' (by rw [List.getElem?_eq_getElem hlt', hd])
    rw [Nat.zero_add] at hd2
    subst hd2
    refine wpAny_mono (en_item (K := fun _ => True) (elts := elts) (k := kk) (pos := tp) hei hl hr kgi Hi hd1 (K' := fun v s₂ => wpAny c.M b.A (assign (.Tuple elts kk tp) b.env v) (fun _ s₃ =>
          wpAny c.M b.A (forIn ifs true fun c r => if r = true then do let ok ← isTrue c b.env (eval c b.env); pure (ForInStep.yield ok) else pure (ForInStep.yield r)) (fun ok s₄ =>
            if ok = true then wpAny c.M b.A (eval elt b.env) (fun x s₅ =>
              wpAny c.M b.A (call (.builtin "list.append") [.ref Dl, x]) (fun _ s₆ => ∃ m, m < n ∧ ∃ i gi es₁ es₂, m + i = row.length ∧ es₁.length ≤ i ∧ PTurns c b lc (.Tuple elts kk tp) ifs elt ((enumD 0 row).drop i) es₂ ∧ es = es₁ ++ es₂ ∧ g.StaysIn gi ∧ St c b gi s₆ ⟨lc, enW e it l i ++ [(Dl, .lst es₁)]⟩) (notedBy c.M b.A b.env fun e s' => R (.error e) s') s₅) (notedBy c.M b.A b.env fun e s' => R (.error e) s') s₄
            else ∃ m, m < n ∧ ∃ i gi es₁ es₂, m + i = row.length ∧ es₁.length ≤ i ∧ PTurns c b lc (.Tuple elts kk tp) ifs elt ((enumD 0 row).drop i) es₂ ∧ es = es₁ ++ es₂ ∧ g.StaysIn gi ∧ St c b gi s₄ ⟨lc, enW e it l i ++ [(Dl, .lst es₁)]⟩) (notedBy c.M b.A b.env fun e s' => R (.error e) s') s₃) (notedBy c.M b.A b.env fun e s' => R (.error e) s') s₂) fun v g₂ s₂ k₂ hv H₃ => ?_) (fun r s₁ h => ?_) fun _ _ h => h
    · have app : ∀ {l₁ : List (PySem.Str × D)} {x : Value} {e' : D} {g₅ : Heap} {s₅ : Shared} {es' : List D}, (∀ x d, lc.lookup x = some d → l₁.lookup x = some d) → gi.StaysIn g₅ → St c b g₅ s₅ ⟨l₁, enW e it l (i + 1) ++ [(Dl, .lst es₁)]⟩ → Rd c g₅ x e' →
          PTurns c b lc (.Tuple elts kk tp) ifs elt ((enumD 0 row).drop (i + 1)) es' → es = es₁ ++ e' :: es' →
          wpAny c.M b.A (call (.builtin "list.append") [.ref Dl, x]) (fun _ s₆ => ∃ m, m < n ∧ ∃ i gi es₁ es₂, m + i = row.length ∧ es₁.length ≤ i ∧ PTurns c b lc (.Tuple elts kk tp) ifs elt ((enumD 0 row).drop i) es₂ ∧ es = es₁ ++ es₂ ∧ g.StaysIn gi ∧ St c b gi s₆ ⟨lc, enW e it l i ++ [(Dl, .lst es₁)]⟩)
            (notedBy c.M b.A b.env fun e s' => R (.error e) s') s₅ := by
        intro l₁ x e' g₅ s₅ es' hl' k₅ H₅ hx hT ho'
        have hD := H₅.own.at_ (Dl, .lst es₁) (by simp)
        · obtain ⟨ws, hp, hr'⟩ := hD.inv
          have hlen := hr'.length
          refine wpAny_list_append_plain hp (fun h₆ hp₆ hs₆ => ?_) (by rw [sizeLine_eq]; simp only [List.size_toArray]; omega)
          refine ⟨row.length - (i + 1), by omega, i + 1, g₅, es₁ ++ [e'], es', by omega, by simp; omega, hT, by rw [ho']; simp, fun b o z => k₅ b o (kg b o z), ?_⟩
          have H₅' : St c b g₅ s₅ ⟨l₁, (enW e it l (i + 1)) ++ (Dl, .lst es₁) :: []⟩ := H₅
          exact (H₅'.replace (ω₁ := enW e it l (i + 1)) (ω₂ := []) (p := Dl) (d := .lst es₁) (d' := .lst (es₁ ++ [e'])) (k := s₅.toks) (h' := h₆) (fun b o hb z => hs₆.extBut b o hb z) (.lst (vs := ws ++ [x]) (by simpa using hp₆) (hr'.snoc hx))).forgetLoc hl'
      cases ht with
      | skip hA hl' hT hrest =>
        refine wpAny_mono ((hA _).run g₂ _ v H₃ hv) (fun _ s₃ ⟨g₃, k₃, H₄⟩ => ?_) fun _ _ e => e.elim
        refine (hT _).then H₄ (fun s₄ g₄ k₄ H₅ => ?_)
        exact ⟨row.length - (i + 1), by omega, i + 1, g₄, es₁, es₂, by omega, by omega, hrest, hoi, fun b o z => k₄ b o (k₃ b o (k₂ b o (kg b o z))), H₅.forgetLoc hl'⟩
      | take hA hl' hT hE hrest =>
        refine wpAny_mono ((hA _).run g₂ _ v H₃ hv) (fun _ s₃ ⟨g₃, k₃, H₄⟩ => ?_) fun _ _ e => e.elim
        refine (hT _).then H₄ (fun s₄ g₄ k₄ H₅ => ?_)
        refine (hE _).then H₅ (fun x s₅ g₅ k₅ H₆ r₆ => ?_)
        exact app hl' (fun b o z => k₅ b o (k₄ b o (k₃ b o (k₂ b o z)))) H₆ r₆ hrest hoi
    · obtain ⟨v, rfl, h⟩ := h
      exact h

/-- a comprehension over enumerate(row) -/
theorem en_all {y : PySem.Str} {yp cp : Pos} {e1 : Expr} {row : List D} {elts : List Expr} {kk : Nat} {tp : Pos} {elt : Expr} {ifs : List Expr} {scope : Scope} {pos fpos : Pos} {cl : List (PySem.Str × Addr)} {lc : List (PySem.Str × D)} {es : List D} {use : Option (Value → Sem Unit)} {Q : Value → Shared → Prop} {E : Value → Shared → Prop}
    (h0 : Ev c a σ (.Name y yp) (.ok (.typ "enumerate", σ.own))) (h1 : EvAll c a σ cp [e1] (.ok ([.lst row], σ.own))) (cg : Caught a σ.loc scope cl lc) (hz : row.length ≤ 1000)
    (t : ∀ C g0 s0, PTurns c (compAct a scope cl C g0 s0 []) lc (.Tuple elts kk tp) ifs elt (enumD 0 row) es) (H : St c a g s σ)
    (hQ : ∀ C Dl g'' s'', g.StaysIn g'' → a.s0.heap.get? C = none → St c a g'' s'' ⟨σ.loc, (C, .raw (NsAt C)) :: σ.own⟩ → Rd c g'' (.ref Dl) (.lst es) → compPost c.M a.A E use Q (.ref Dl) C (.ok .next) s'')
    (he : starEach [e1] a.env = (false, eval e1 a.env) :: starEach [] a.env) (hplain : (backTo cp (starEach [] a.env)).any (·.1) = false)
    (hs : ∀ x, foldedSetIterable (.Call (.Name y yp) [e1] [] cp) a.env x = pure x) :
    wpAny c.M a.A (comprehension (.ListComp elt [⟨.Tuple elts kk tp, .Call (.Name y yp) [e1] [] cp, ifs, 0⟩] scope pos) scope a.env fpos (newList []) false (eval (.Call (.Name y yp) [e1] [] cp) a.env) use) Q E s := by
  refine wpAny_comprehension_free (cl := cl) rfl hs cg.clo cg.kind cg.locals ?_
  refine enum_call h0 h1 he hplain H fun g₁ s₁ l vs h' k₁ H₁ hl hr hE hI hsz hk => ?_
  generalize hI0 : s₁.heap.objs.size = it at hE hI hsz ⊢
  generalize hen : it + 1 = e at hE ⊢
  refine wpAny_pyIter_enum hE ?_
  refine wpAny_newObj_type (hd := by size_fits) (wpAny_newFunctionEnv cg.cell (by intro y hy; simp at hy) (fun h₁ hns₁ hsb₁ => ?_) cg.kind)
  dsimp only at hns₁ hsb₁ ⊢
  generalize hH2 : h'.push { cls := .type "list", dict := none, data := .seq ([] : List Value).toArray } = H2 at hns₁ hsb₁ ⊢
  have hC : H2.objs.size = it + 3 := by rw [← hH2, Heap.size_push, hsz]
  generalize hDn : h'.objs.size = Dl at hsz ⊢
  generalize hCn : H2.objs.size = C at hC hns₁ hsb₁ ⊢
  have lt1 : ∀ b o, s₁.heap.get? b = some o → b < it := fun b o x => hI0 ▸ Heap.lt_size x
  have none_of : ∀ b, it ≤ b → s₁.heap.get? b = none := fun b hb => by
    cases q : s₁.heap.get? b with
    | none => rfl
    | some o => exact absurd (lt1 b o q) (Nat.not_lt.mpr hb)
  have hen' : e = it + 1 := hen.symm
  have n1 : e ≠ Dl := by rw [hsz, hen']; exact Nat.ne_of_lt (Nat.lt_succ_self _)
  have n2 : e ≠ C := by rw [hC, hen']; exact Nat.ne_of_lt (Nat.add_lt_add_left (by decide) _)
  have n3 : Dl ≠ C := by rw [hsz, hC]; exact Nat.ne_of_lt (Nat.lt_succ_self _)
  have n4 : it ≠ e := by rw [hen']; exact Nat.ne_of_lt (Nat.lt_succ_self _)
  have n5 : it ≠ Dl := by rw [hsz]; exact Nat.ne_of_lt (Nat.lt_add_of_pos_right (by decide))
  have n6 : it ≠ C := by rw [hC]; exact Nat.ne_of_lt (Nat.lt_add_of_pos_right (by decide))
  have up2 : ∀ b o, h'.get? b = some o → H2.get? b = some o := fun b o x => hH2 ▸ Heap.get?_push_of_some _ x
  have up3 : ∀ b o, b ≠ C → H2.get? b = some o → h₁.get? b = some o := fun b o hb x => hsb₁.extBut b o hb (Heap.get?_push_of_some _ x)
  have cI : s₁.heap.get? it = none := none_of it (Nat.le_refl _)
  have cE : s₁.heap.get? e = none := none_of e (by rw [hen']; exact Nat.le_succ _)
  have cD : s₁.heap.get? Dl = none := none_of _ (by rw [hsz]; exact Nat.le_add_right _ _)
  have cC : s₁.heap.get? C = none := none_of _ (by rw [hC]; exact Nat.le_add_right _ _)
  have keep : ∀ b o, s₁.heap.get? b = some o → h₁.get? b = some o := fun b o x => up3 b o (fun q => by rw [q, cC] at x; cases x) (up2 b o (hk b o x))
  have hE1 : enE e it 0 h₁ := ⟨_, up3 e _ n2 (up2 e _ hE)⟩
  have hI1 : enI it l 0 h₁ := hI.at fun o x => up3 it o n6 (up2 it o x)
  have acc : OwnAt c g₁ h₁ Dl (.lst []) := .lst (vs := []) ⟨0, up3 Dl _ n3 (by rw [← hH2, ← hDn]; exact Heap.get?_push_size _ rfl)⟩ .nil
  have Hin := comp_in (scope := scope) (cl := cl) (lc := lc) (ωi := []) (k := s₁.toks + ([] : List (PySem.Str × Value)).length) H₁ cg (fun p hp => by cases hp) (by simp) keep cE cD cC n1 n2 n3 ⟨_, hns₁⟩ (enE_own hE1) acc
  have Fg : it ∉ a.F := fun hb => by
    obtain ⟨lf, hlf, hF, hfr⟩ := H₁.fr
    rw [hF] at hb
    obtain ⟨env, hhe, hf⟩ := List.mem_filterMap.mp hb
    obtain ⟨_, L', m, hL', hg, o, _, _, ho, _⟩ := hfr env hhe
    rw [hL'] at hf; cases hf
    rw [cI] at ho; cases ho
  have Hin' : St c (compAct a scope cl C g₁ s₁ []) g₁ { s₁ with heap := h₁, toks := s₁.toks + ([] : List (PySem.Str × Value)).length } ⟨lc, enW e it l 0 ++ [(Dl, .lst [])]⟩ := by
    refine Hin.adoptN (p := it) (d := .raw (enI it l 0)) cI Fg n6 (fun x hx => ?_) (H₁.g_new cI) (enI_own hI1) (fun q hq => ?_)
    · obtain ⟨_, _, v, o, x', _⟩ := H₁.cells x _ (cg.sub x _ hx); rw [cI] at x'; cases x'
    · simp only [List.nil_append, List.mem_cons, List.not_mem_nil, or_false] at hq
      rcases hq with rfl | rfl
      · exact n4.symm
      · exact n5.symm
  have loop : codeAny c.M a.A (.compLoop (.ListComp elt [⟨.Tuple elts kk tp, .Call (.Name y yp) [e1] [] cp, ifs, 0⟩] scope pos) 0 (.ref e) (.ref Dl) (compEnvC scope cl C a.env)) (compPost c.M a.A E use Q (.ref Dl) C) { s₁ with heap := h₁, toks := s₁.toks + ([] : List (PySem.Str × Value)).length } := by
    refine en_loop (b := compAct a scope cl C g₁ s₁ []) n4.symm hl hr (fun _ _ x => x) Hin' (t C g₁ s₁) hz (fun g' s' k' H' => ?_) cI
    have hb := comp_back (k := s'.toks) (ωi := []) H₁ (fun p hp => by cases hp) H' cC (Heap.SameBut.refl ..) σ.own (fun p hp => .inl ⟨hp, by simp⟩) H₁.own.apart
    have neN : ∀ N, s₁.heap.get? N = none → ∀ q ∈ σ.own, q.1 ≠ N := fun N hN q hq x => by obtain ⟨o, x'⟩ := (H₁.own.at_ q hq).there; rw [x, hN] at x'; cases x'
    have hm : (Dl, D.lst es) ∈ [(Dl, D.lst es)] := by simp
    have h2 := H₁.adopt hb (p := Dl) (d := .lst es) cD (H'.own.out _ hm).1 ((H'.own.at_ _ hm).move (fun _ _ x => x) fun _ x => x) (neN Dl cD)
    have h2' : St c a g' { s' with heap := s'.heap, toks := s'.toks } ⟨σ.loc, [] ++ (Dl, .lst es) :: σ.own⟩ := h2
    obtain ⟨g'', k'', h3, hr', hold⟩ := h2'.freeze (fun hb => by
      obtain ⟨o, x⟩ := (H₁.ok.box Dl hb).2
      rw [H₁.s0_new cD] at x; cases x) .lst
    have gC : g''.get? C = none := (hold C (Ne.symm n3)).trans H'.nl
    have h4 := H₁.adopt h3 (p := C) (d := .raw (NsAt C)) cC gC (.raw (let ⟨m, o, _, _, x, _⟩ := H'.ns; ⟨o, x⟩) fun h'' _ x => let ⟨m, hm⟩ := H'.ns; ⟨m, hm.at' x⟩) (fun q hq => neN C cC q hq)
    exact hQ C Dl g'' s' (fun b o x => k'' b o (k' b o (k₁ b o x))) (H₁.s0_new cC) h4 hr'
  exact codeAny_compStart_list loop (wpAny_pyIter_enum hE1.choose_spec loop)

theorem Ev.enumComp {y : PySem.Str} {yp cp : Pos} {e1 : Expr} {row : List D} {elts : List Expr} {kk : Nat} {tp : Pos} {elt : Expr} {ifs : List Expr} {scope : Scope} {pos : Pos} {cl : List (PySem.Str × Addr)} {lc : List (PySem.Str × D)} {es : List D}
    (h0 : Ev c a σ (.Name y yp) (.ok (.typ "enumerate", σ.own))) (h1 : EvAll c a σ cp [e1] (.ok ([.lst row], σ.own))) (cg : Caught a σ.loc scope cl lc) (hz : row.length ≤ 1000)
    (t : ∀ C g0 s0, PTurns c (compAct a scope cl C g0 s0 []) lc (.Tuple elts kk tp) ifs elt (enumD 0 row) es)
    (he : starEach [e1] a.env = (false, eval e1 a.env) :: starEach [] a.env := by rfl) (hplain : (backTo cp (starEach [] a.env)).any (·.1) = false := by rfl)
    (hs : ∀ x, foldedSetIterable (.Call (.Name y yp) [e1] [] cp) a.env x = pure x := by intro _; rfl) :
    Ev c a σ (.ListComp elt [⟨.Tuple elts kk tp, .Call (.Name y yp) [e1] [] cp, ifs, 0⟩] scope pos) (.ok (.lst es, σ.own)) := .mk fun g s H => by
  rw [eval_ListComp]
  refine en_all (use := Option.none) h0 h1 cg hz t H (fun C Dl g'' s'' k hC H' hr => ?_) he hplain hs
  obtain ⟨m, hm⟩ : NsAt C s''.heap := by
    have := H'.own.at_ (C, .raw (NsAt C)) (.head _)
    cases this with
    | raw _ h => exact h _ H'.stays fun _ e => e
  refine ⟨m, hm, fun h' hs' => ⟨_, _, rfl, g'', k, ?_, hr⟩⟩
  exact H'.remove (ω₁ := []) (k := s''.toks) (fun b o hb e => hs'.extBut b o hb e) hC

/-- [.. for x, y in enumerate(row) if ..], stored to a name of the frame's -/
theorem Ex.enumComp {z y : PySem.Str} {zp yp cp : Pos} {e1 : Expr} {row : List D} {elts : List Expr} {kk : Nat} {tp : Pos} {elt : Expr} {ifs : List Expr} {scope : Scope} {pos spos : Pos} {cl : List (PySem.Str × Addr)} {lc : List (PySem.Str × D)} {es : List D}
    (h0 : Ev c a σ (.Name y yp) (.ok (.typ "enumerate", σ.own))) (h1 : EvAll c a σ cp [e1] (.ok ([.lst row], σ.own))) (cg : Caught a σ.loc scope cl lc) (hz : row.length ≤ 1000)
    (t : ∀ C g0 s0, PTurns c (compAct a scope cl C g0 s0 []) lc (.Tuple elts kk tp) ifs elt (enumD 0 row) es) (hx : Stores a z)
    (he : starEach [e1] a.env = (false, eval e1 a.env) :: starEach [] a.env := by rfl) (hplain : (backTo cp (starEach [] a.env)).any (·.1) = false := by rfl)
    (hsw : swapsWith (.ListComp elt [⟨.Tuple elts kk tp, .Call (.Name y yp) [e1] [] cp, ifs, 0⟩] scope pos) (some (.Name z zp)) spos.line a.env = pure true := by rfl)
    (hs : ∀ x, foldedSetIterable (.Call (.Name y yp) [e1] [] cp) a.env x = pure x := by intro _; rfl) :
    Ex c a σ (.Assign [.Name z zp] (.ListComp elt [⟨.Tuple elts kk tp, .Call (.Name y yp) [e1] [] cp, ifs, 0⟩] scope pos) spos) (.ok (.next ⟨(z, .lst es) :: σ.loc, σ.own⟩)) := .mk fun g s H => by
  rw [exec_Assign_Name_used _ _ _ _ hsw]
  refine wpAny_bind (wpAny_standAt (wpAny_bind ?_))
  show wpAny c.M a.A (do let _ ← comprehension (.ListComp elt [⟨.Tuple elts kk tp, .Call (.Name y yp) [e1] [] cp, ifs, 0⟩] scope pos) scope a.env (firstIterPos [⟨.Tuple elts kk tp, .Call (.Name y yp) [e1] [] cp, ifs, 0⟩] pos) (newList []) (firstAsync [⟨.Tuple elts kk tp, .Call (.Name y yp) [e1] [] cp, ifs, 0⟩]) (firstIter [⟨.Tuple elts kk tp, .Call (.Name y yp) [e1] [] cp, ifs, 0⟩] a.env) (some (PySem.assign (.Name z zp) a.env))) _ _ s
  refine wpAny_bind ?_
  refine en_all (use := some (PySem.assign (.Name z zp) a.env)) h0 h1 cg hz t H (fun C Dl g'' s'' k hC H' hr => ?_) he hplain hs
  refine wpAny_assign_Name (store_ok H' hr hx fun s₃ H₃ => ?_)
  obtain ⟨m, hm⟩ : NsAt C s₃.heap := by
    have := H₃.own.at_ (C, .raw (NsAt C)) (.head _)
    cases this with
    | raw _ h => exact h _ H₃.stays fun _ x => x
  refine ⟨m, hm, fun h' hs' => wpAny_pure (wpAny_pure ⟨_, rfl, g'', k, ?_⟩)⟩
  exact H₃.remove (ω₁ := []) (k := s₃.toks) (fun b o hb x => hs'.extBut b o hb x) hC
end

section
section
open PySem PySem.W PySem.Calls PyProof.Rows
noncomputable abbrev ofS (x : String) : PySem.Str := PySem.Str.ofString x
noncomputable def nthS : List Stmt → Nat → Stmt
  | [], _ => .Pass ⟨0, 0, 0, 0⟩
  | s :: _, 0 => s
  | _ :: r, i + 1 => nthS r i
noncomputable def bodyIn : Stmt → List Stmt
  | .ClassDef _ _ _ b _ _ _ _ _ _ _ => b
  | _ => []
/-- the object of a def, as the top leaves it -/
noncomputable def fnOb (q : PySem.Str) (st : Stmt) (pm : Value) (cd : Addr) : Obj := match st with
  | .FunctionDef n ps b _ _ _ sc _ _ _ => { cls := .type "function", data := .func { name := n, qualname := q, params := ps, body := .stmts b, scope := sc, globals := 3, closure := [], defaults := .none, kwdefaults := .none, doc := .none, pyModule := pm, annotations := none, code := .ref cd, closureTuple := .none, builtins := 0 } }
  | _ => { cls := .none }
/-- the objects of the heap that the walk names -/
noncomputable def KK (P : Params) : Frag := [
  (3, { cls := .type "dict", data := .dict #[{ hash := PyData.keyHash P (ofS "__name__"), key := .str (ofS "__name__") 165, val := .str (ofS "law_no0068_01") 381 }, { hash := PyData.keyHash P (ofS "__doc__"), key := .str (ofS "__doc__") 166, val := .none }, { hash := PyData.keyHash P (ofS "__package__"), key := .str (ofS "__package__") 167, val := .none }, { hash := PyData.keyHash P (ofS "__loader__"), key := .str (ofS "__loader__") 168, val := .builtin "__main__.__loader__#opaque" }, { hash := PyData.keyHash P (ofS "__spec__"), key := .str (ofS "__spec__") 169, val := .none }, { hash := PyData.keyHash P (ofS "__annotations__"), key := .str (ofS "__annotations__") 170, val := .ref 6 }, { hash := PyData.keyHash P (ofS "__builtins__"), key := .str (ofS "__builtins__") 171, val := .ref 4 }, { hash := PyData.keyHash P (ofS "__file__"), key := .str (ofS "__file__") 173, val := .str (ofS "/claim/cut.py") 172 }, { hash := PyData.keyHash P (ofS "__cached__"), key := .str (ofS "__cached__") 174, val := .none }, { hash := PyData.keyHash P (ofS "H3Error"), key := .str (ofS "H3Error") 219, val := .ref 31 }, { hash := PyData.keyHash P (ofS "H3_MESSAGE_ERROR"), key := .str (ofS "H3_MESSAGE_ERROR") 221, val := .int 270 220 }, { hash := PyData.keyHash P (ofS "REQUEST_NAMES"), key := .str (ofS "REQUEST_NAMES") 228, val := .ref 35 }, { hash := PyData.keyHash P (ofS "CONNECTION_NAMES"), key := .str (ofS "CONNECTION_NAMES") 234, val := .ref 36 }, { hash := PyData.keyHash P (ofS "NAME_SIGNS"), key := .str (ofS "NAME_SIGNS") 236, val := .bytes #[33, 35, 36, 37, 38, 39, 42, 43, 45, 46, 94, 95, 96, 124, 126] 235 }, { hash := PyData.keyHash P (ofS "FIELD_COST"), key := .str (ofS "FIELD_COST") 238, val := .int 32 237 }, { hash := PyData.keyHash P (ofS "malformed"), key := .str (ofS "malformed") 245, val := .ref 43 }, { hash := PyData.keyHash P (ofS "is_name_octet"), key := .str (ofS "is_name_octet") 252, val := .ref 50 }, { hash := PyData.keyHash P (ofS "check_name"), key := .str (ofS "check_name") 258, val := .ref 55 }, { hash := PyData.keyHash P (ofS "check_value"), key := .str (ofS "check_value") 264, val := .ref 60 }, { hash := PyData.keyHash P (ofS "check_field"), key := .str (ofS "check_field") 272, val := .ref 67 }, { hash := PyData.keyHash P (ofS "number_of_digits"), key := .str (ofS "number_of_digits") 278, val := .ref 72 }, { hash := PyData.keyHash P (ofS "values_of"), key := .str (ofS "values_of") 284, val := .ref 77 }, { hash := PyData.keyHash P (ofS "pseudo_fields"), key := .str (ofS "pseudo_fields") 296, val := .ref 84 }, { hash := PyData.keyHash P (ofS "check_authority"), key := .str (ofS "check_authority") 306, val := .ref 91 }, { hash := PyData.keyHash P (ofS "check_request"), key := .str (ofS "check_request") 315, val := .ref 98 }, { hash := PyData.keyHash P (ofS "check_answer"), key := .str (ofS "check_answer") 324, val := .ref 105 }, { hash := PyData.keyHash P (ofS "check_trailer"), key := .str (ofS "check_trailer") 331, val := .ref 112 }, { hash := PyData.keyHash P (ofS "is_interim"), key := .str (ofS "is_interim") 338, val := .ref 119 }, { hash := PyData.keyHash P (ofS "content_length"), key := .str (ofS "content_length") 344, val := .ref 124 }, { hash := PyData.keyHash P (ofS "has_no_body"), key := .str (ofS "has_no_body") 352, val := .ref 131 }, { hash := PyData.keyHash P (ofS "check_length"), key := .str (ofS "check_length") 362, val := .ref 138 }, { hash := PyData.keyHash P (ofS "section_size"), key := .str (ofS "section_size") 368, val := .ref 143 }, { hash := PyData.keyHash P (ofS "joined_cookies"), key := .str (ofS "joined_cookies") 380, val := .ref 150 }, { hash := PyData.keyHash P (ofS "_law_take"), key := .str (ofS "_law_take") 391, val := .ref 157 }, { hash := PyData.keyHash P (ofS "_law_code"), key := .str (ofS "_law_code") 400, val := .ref 164 }, { hash := PyData.keyHash P (ofS "_law_request"), key := .str (ofS "_law_request") 410, val := .ref 171 }, { hash := PyData.keyHash P (ofS "_law_spoilt"), key := .str (ofS "_law_spoilt") 416, val := .ref 176 }, { hash := PyData.keyHash P (ofS "_law_plain"), key := .str (ofS "_law_plain") 422, val := .ref 181 }, { hash := PyData.keyHash P (ofS "_law_digits"), key := .str (ofS "_law_digits") 429, val := .ref 188 }, { hash := PyData.keyHash P (ofS "_law_lengths"), key := .str (ofS "_law_lengths") 435, val := .ref 193 }, { hash := PyData.keyHash P (ofS "_law_is_request"), key := .str (ofS "_law_is_request") 441, val := .ref 198 }, { hash := PyData.keyHash P (ofS "_law_request_right"), key := .str (ofS "_law_request_right") 447, val := .ref 203 }, { hash := PyData.keyHash P (ofS "_law_answer_right"), key := .str (ofS "_law_answer_right") 453, val := .ref 208 }, { hash := PyData.keyHash P (ofS "_law_size_right"), key := .str (ofS "_law_size_right") 466, val := .ref 215 }, { hash := PyData.keyHash P (ofS "_law_small_right"), key := .str (ofS "_law_small_right") 472, val := .ref 220 }, { hash := PyData.keyHash P (ofS "law"), key := .str (ofS "law") 480, val := .ref 227 }] 46 }),
  (27, { cls := .type "code", data := .fields #[.str (ofS "__init__") 201, .str (ofS "H3Error.__init__") 202, .str (ofS "/claim/cut.py") 203, .int 4 0, .int 3 0, .int 0 0, .int 0 0, .int 3 0, .ref 22, .bool true, .int 181 0, .ref 23, .none, .ref 24, .ref 25, .ref 26, .int 207 0, .int 4 0, .str (ofS "/claim/cut.py") 208] }),
  (28, fnOb (ofS "H3Error.__init__") (nthS (bodyIn (nthS Challenge.pw_no0068_01.main.body 1)) 0) (.str (ofS "quic.errors") 187) 27),
  (30, { cls := .type "dict", data := .dict #[{ hash := PyData.keyHash P (ofS "__module__"), key := .str (ofS "__module__") 196, val := .str (ofS "quic.errors") 187 }, { hash := PyData.keyHash P (ofS "__firstlineno__"), key := .str (ofS "__firstlineno__") 200, val := .int 2 199 }, { hash := PyData.keyHash P (ofS "__init__"), key := .str (ofS "__init__") 209, val := .ref 28 }, { hash := PyData.keyHash P (ofS "__static_attributes__"), key := .str (ofS "__static_attributes__") 212, val := .ref 29 }, { hash := PyData.keyHash P (ofS "__weakref__"), key := .str (ofS "__weakref__") 214, val := .ref 32 }, { hash := PyData.keyHash P (ofS "__doc__"), key := .str (ofS "__doc__") 215, val := .none }] 3 }),
  (31, { cls := .type "type", data := .cls { name := (ofS "H3Error"), bases := [.type "Exception"], mro := [.ref 31, .type "Exception", .type "BaseException", .type "object"], ns := 30, qualname := (ofS "H3Error") }, slots := #[.some (.ref 15), .none, .some (.str (ofS "H3Error") 189), .some (.str (ofS "H3Error") 197), .some (.builtin "Exception.__new__"), .some (.bool true)] }),
  (35, { cls := .type "tuple", data := .seq #[.bytes #[58, 109, 101, 116, 104, 111, 100] 224, .bytes #[58, 115, 99, 104, 101, 109, 101] 225, .bytes #[58, 97, 117, 116, 104, 111, 114, 105, 116, 121] 226, .bytes #[58, 112, 97, 116, 104] 227] }),
  (36, { cls := .type "tuple", data := .seq #[.bytes #[99, 111, 110, 110, 101, 99, 116, 105, 111, 110] 229, .bytes #[107, 101, 101, 112, 45, 97, 108, 105, 118, 101] 230, .bytes #[112, 114, 111, 120, 121, 45, 99, 111, 110, 110, 101, 99, 116, 105, 111, 110] 231, .bytes #[116, 114, 97, 110, 115, 102, 101, 114, 45, 101, 110, 99, 111, 100, 105, 110, 103] 232, .bytes #[117, 112, 103, 114, 97, 100, 101] 233] }),
  (42, { cls := .type "code", data := .fields #[.str (ofS "malformed") 239, .str (ofS "malformed") 240, .str (ofS "/claim/cut.py") 241, .int 14 0, .int 1 0, .int 0 0, .int 0 0, .int 3 0, .ref 37, .bool true, .int 181 0, .ref 38, .none, .ref 39, .ref 40, .ref 41, .int 243 0, .int 14 0, .str (ofS "/claim/cut.py") 244] }),
  (43, fnOb (ofS "malformed") (nthS Challenge.pw_no0068_01.main.body 8) (.str (ofS "quic.h3messages") 222) 42),
  (49, { cls := .type "code", data := .fields #[.str (ofS "is_name_octet") 246, .str (ofS "is_name_octet") 247, .str (ofS "/claim/cut.py") 248, .int 16 0, .int 1 0, .int 0 0, .int 0 0, .int 3 0, .ref 44, .bool true, .int 181 0, .ref 45, .none, .ref 46, .ref 47, .ref 48, .int 250 0, .int 16 0, .str (ofS "/claim/cut.py") 251] }),
  (50, fnOb (ofS "is_name_octet") (nthS Challenge.pw_no0068_01.main.body 9) (.str (ofS "quic.h3messages") 222) 49),
  (54, { cls := .type "code", data := .fields #[.str (ofS "check_name") 253, .str (ofS "check_name") 254, .str (ofS "/claim/cut.py") 255, .int 18 0, .int 1 0, .int 0 0, .int 0 0, .int 3 0, .ref 51, .bool true, .int 181 0, .ref 52, .none, .none, .none, .ref 53, .int 256 0, .int 18 0, .str (ofS "/claim/cut.py") 257] }),
  (55, fnOb (ofS "check_name") (nthS Challenge.pw_no0068_01.main.body 10) (.str (ofS "quic.h3messages") 222) 54),
  (59, { cls := .type "code", data := .fields #[.str (ofS "check_value") 259, .str (ofS "check_value") 260, .str (ofS "/claim/cut.py") 261, .int 22 0, .int 1 0, .int 0 0, .int 0 0, .int 3 0, .ref 56, .bool true, .int 181 0, .ref 57, .none, .none, .none, .ref 58, .int 262 0, .int 22 0, .str (ofS "/claim/cut.py") 263] }),
  (60, fnOb (ofS "check_value") (nthS Challenge.pw_no0068_01.main.body 11) (.str (ofS "quic.h3messages") 222) 59),
  (66, { cls := .type "code", data := .fields #[.str (ofS "check_field") 265, .str (ofS "check_field") 266, .str (ofS "/claim/cut.py") 267, .int 27 0, .int 2 0, .int 0 0, .int 0 0, .int 3 0, .ref 61, .bool true, .int 181 0, .ref 62, .none, .ref 63, .ref 64, .ref 65, .int 270 0, .int 27 0, .str (ofS "/claim/cut.py") 271] }),
  (67, fnOb (ofS "check_field") (nthS Challenge.pw_no0068_01.main.body 12) (.str (ofS "quic.h3messages") 222) 66),
  (71, { cls := .type "code", data := .fields #[.str (ofS "number_of_digits") 273, .str (ofS "number_of_digits") 274, .str (ofS "/claim/cut.py") 275, .int 32 0, .int 1 0, .int 0 0, .int 0 0, .int 3 0, .ref 68, .bool true, .int 181 0, .ref 69, .none, .none, .none, .ref 70, .int 276 0, .int 32 0, .str (ofS "/claim/cut.py") 277] }),
  (72, fnOb (ofS "number_of_digits") (nthS Challenge.pw_no0068_01.main.body 13) (.str (ofS "quic.h3messages") 222) 71),
  (76, { cls := .type "code", data := .fields #[.str (ofS "values_of") 279, .str (ofS "values_of") 280, .str (ofS "/claim/cut.py") 281, .int 39 0, .int 2 0, .int 0 0, .int 0 0, .int 3 0, .ref 73, .bool true, .int 181 0, .ref 74, .none, .none, .none, .ref 75, .int 282 0, .int 39 0, .str (ofS "/claim/cut.py") 283] }),
  (77, fnOb (ofS "values_of") (nthS Challenge.pw_no0068_01.main.body 14) (.str (ofS "quic.h3messages") 222) 76),
  (83, { cls := .type "code", data := .fields #[.str (ofS "pseudo_fields") 285, .str (ofS "pseudo_fields") 286, .str (ofS "/claim/cut.py") 287, .int 41 0, .int 2 0, .int 0 0, .int 0 0, .int 3 0, .ref 78, .bool true, .int 181 0, .ref 79, .none, .ref 80, .ref 81, .ref 82, .int 294 0, .int 41 0, .str (ofS "/claim/cut.py") 295] }),
  (84, fnOb (ofS "pseudo_fields") (nthS Challenge.pw_no0068_01.main.body 15) (.str (ofS "quic.h3messages") 222) 83),
  (90, { cls := .type "code", data := .fields #[.str (ofS "check_authority") 297, .str (ofS "check_authority") 298, .str (ofS "/claim/cut.py") 299, .int 52 0, .int 2 0, .int 0 0, .int 0 0, .int 3 0, .ref 85, .bool true, .int 181 0, .ref 86, .none, .ref 87, .ref 88, .ref 89, .int 304 0, .int 52 0, .str (ofS "/claim/cut.py") 305] }),
  (91, fnOb (ofS "check_authority") (nthS Challenge.pw_no0068_01.main.body 16) (.str (ofS "quic.h3messages") 222) 90),
  (97, { cls := .type "code", data := .fields #[.str (ofS "check_request") 307, .str (ofS "check_request") 308, .str (ofS "/claim/cut.py") 309, .int 57 0, .int 1 0, .int 0 0, .int 0 0, .int 3 0, .ref 92, .bool true, .int 181 0, .ref 93, .none, .ref 94, .ref 95, .ref 96, .int 313 0, .int 57 0, .str (ofS "/claim/cut.py") 314] }),
  (98, fnOb (ofS "check_request") (nthS Challenge.pw_no0068_01.main.body 17) (.str (ofS "quic.h3messages") 222) 97),
  (104, { cls := .type "code", data := .fields #[.str (ofS "check_answer") 316, .str (ofS "check_answer") 317, .str (ofS "/claim/cut.py") 318, .int 74 0, .int 1 0, .int 0 0, .int 0 0, .int 3 0, .ref 99, .bool true, .int 181 0, .ref 100, .none, .ref 101, .ref 102, .ref 103, .int 322 0, .int 74 0, .str (ofS "/claim/cut.py") 323] }),
  (105, fnOb (ofS "check_answer") (nthS Challenge.pw_no0068_01.main.body 18) (.str (ofS "quic.h3messages") 222) 104),
  (111, { cls := .type "code", data := .fields #[.str (ofS "check_trailer") 325, .str (ofS "check_trailer") 326, .str (ofS "/claim/cut.py") 327, .int 81 0, .int 1 0, .int 0 0, .int 0 0, .int 3 0, .ref 106, .bool true, .int 181 0, .ref 107, .none, .ref 108, .ref 109, .ref 110, .int 329 0, .int 81 0, .str (ofS "/claim/cut.py") 330] }),
  (112, fnOb (ofS "check_trailer") (nthS Challenge.pw_no0068_01.main.body 19) (.str (ofS "quic.h3messages") 222) 111),
  (118, { cls := .type "code", data := .fields #[.str (ofS "is_interim") 332, .str (ofS "is_interim") 333, .str (ofS "/claim/cut.py") 334, .int 83 0, .int 1 0, .int 0 0, .int 0 0, .int 3 0, .ref 113, .bool true, .int 181 0, .ref 114, .none, .ref 115, .ref 116, .ref 117, .int 336 0, .int 83 0, .str (ofS "/claim/cut.py") 337] }),
  (119, fnOb (ofS "is_interim") (nthS Challenge.pw_no0068_01.main.body 20) (.str (ofS "quic.h3messages") 222) 118),
  (123, { cls := .type "code", data := .fields #[.str (ofS "content_length") 339, .str (ofS "content_length") 340, .str (ofS "/claim/cut.py") 341, .int 87 0, .int 1 0, .int 0 0, .int 0 0, .int 3 0, .ref 120, .bool true, .int 181 0, .ref 121, .none, .none, .none, .ref 122, .int 342 0, .int 87 0, .str (ofS "/claim/cut.py") 343] }),
  (124, fnOb (ofS "content_length") (nthS Challenge.pw_no0068_01.main.body 21) (.str (ofS "quic.h3messages") 222) 123),
  (130, { cls := .type "code", data := .fields #[.str (ofS "has_no_body") 345, .str (ofS "has_no_body") 346, .str (ofS "/claim/cut.py") 347, .int 92 0, .int 2 0, .int 0 0, .int 0 0, .int 3 0, .ref 125, .bool true, .int 181 0, .ref 126, .none, .ref 127, .ref 128, .ref 129, .int 350 0, .int 92 0, .str (ofS "/claim/cut.py") 351] }),
  (131, fnOb (ofS "has_no_body") (nthS Challenge.pw_no0068_01.main.body 22) (.str (ofS "quic.h3messages") 222) 130),
  (137, { cls := .type "code", data := .fields #[.str (ofS "check_length") 353, .str (ofS "check_length") 354, .str (ofS "/claim/cut.py") 355, .int 94 0, .int 3 0, .int 0 0, .int 0 0, .int 3 0, .ref 132, .bool true, .int 181 0, .ref 133, .none, .ref 134, .ref 135, .ref 136, .int 360 0, .int 94 0, .str (ofS "/claim/cut.py") 361] }),
  (138, fnOb (ofS "check_length") (nthS Challenge.pw_no0068_01.main.body 23) (.str (ofS "quic.h3messages") 222) 137),
  (142, { cls := .type "code", data := .fields #[.str (ofS "section_size") 363, .str (ofS "section_size") 364, .str (ofS "/claim/cut.py") 365, .int 98 0, .int 1 0, .int 0 0, .int 0 0, .int 3 0, .ref 139, .bool true, .int 181 0, .ref 140, .none, .none, .none, .ref 141, .int 366 0, .int 98 0, .str (ofS "/claim/cut.py") 367] }),
  (143, fnOb (ofS "section_size") (nthS Challenge.pw_no0068_01.main.body 24) (.str (ofS "quic.h3messages") 222) 142),
  (149, { cls := .type "code", data := .fields #[.str (ofS "joined_cookies") 369, .str (ofS "joined_cookies") 370, .str (ofS "/claim/cut.py") 371, .int 100 0, .int 1 0, .int 0 0, .int 0 0, .int 3 0, .ref 144, .bool true, .int 181 0, .ref 145, .none, .ref 146, .ref 147, .ref 148, .int 378 0, .int 100 0, .str (ofS "/claim/cut.py") 379] }),
  (150, fnOb (ofS "joined_cookies") (nthS Challenge.pw_no0068_01.main.body 25) (.str (ofS "quic.h3messages") 222) 149),
  (156, { cls := .type "code", data := .fields #[.str (ofS "_law_take") 383, .str (ofS "_law_take") 384, .str (ofS "/claim/cut.py") 385, .int 110 0, .int 2 0, .int 0 0, .int 0 0, .int 3 0, .ref 151, .bool true, .int 181 0, .ref 152, .none, .ref 153, .ref 154, .ref 155, .int 389 0, .int 110 0, .str (ofS "/claim/cut.py") 390] }),
  (157, fnOb (ofS "_law_take") (nthS Challenge.pw_no0068_01.main.body 27) (.str (ofS "law_no0068_01") 381) 156),
  (163, { cls := .type "code", data := .fields #[.str (ofS "_law_code") 392, .str (ofS "_law_code") 393, .str (ofS "/claim/cut.py") 394, .int 118 0, .int 2 0, .int 0 0, .int 0 0, .int 3 0, .ref 158, .bool true, .int 181 0, .ref 159, .none, .ref 160, .ref 161, .ref 162, .int 398 0, .int 118 0, .str (ofS "/claim/cut.py") 399] }),
  (164, fnOb (ofS "_law_code") (nthS Challenge.pw_no0068_01.main.body 28) (.str (ofS "law_no0068_01") 381) 163),
  (170, { cls := .type "code", data := .fields #[.str (ofS "_law_request") 401, .str (ofS "_law_request") 402, .str (ofS "/claim/cut.py") 403, .int 123 0, .int 1 0, .int 0 0, .int 0 0, .int 3 0, .ref 165, .bool true, .int 181 0, .ref 166, .none, .ref 167, .ref 168, .ref 169, .int 408 0, .int 123 0, .str (ofS "/claim/cut.py") 409] }),
  (171, fnOb (ofS "_law_request") (nthS Challenge.pw_no0068_01.main.body 29) (.str (ofS "law_no0068_01") 381) 170),
  (175, { cls := .type "code", data := .fields #[.str (ofS "_law_spoilt") 411, .str (ofS "_law_spoilt") 412, .str (ofS "/claim/cut.py") 413, .int 130 0, .int 2 0, .int 0 0, .int 0 0, .int 3 0, .ref 172, .bool true, .int 181 0, .ref 173, .none, .none, .none, .ref 174, .int 414 0, .int 130 0, .str (ofS "/claim/cut.py") 415] }),
  (176, fnOb (ofS "_law_spoilt") (nthS Challenge.pw_no0068_01.main.body 30) (.str (ofS "law_no0068_01") 381) 175),
  (180, { cls := .type "code", data := .fields #[.str (ofS "_law_plain") 417, .str (ofS "_law_plain") 418, .str (ofS "/claim/cut.py") 419, .int 146 0, .int 1 0, .int 0 0, .int 0 0, .int 3 0, .ref 177, .bool true, .int 181 0, .ref 178, .none, .none, .none, .ref 179, .int 420 0, .int 146 0, .str (ofS "/claim/cut.py") 421] }),
  (181, fnOb (ofS "_law_plain") (nthS Challenge.pw_no0068_01.main.body 31) (.str (ofS "law_no0068_01") 381) 180),
  (187, { cls := .type "code", data := .fields #[.str (ofS "_law_digits") 423, .str (ofS "_law_digits") 424, .str (ofS "/claim/cut.py") 425, .int 165 0, .int 1 0, .int 0 0, .int 0 0, .int 3 0, .ref 182, .bool true, .int 181 0, .ref 183, .none, .ref 184, .ref 185, .ref 186, .int 427 0, .int 165 0, .str (ofS "/claim/cut.py") 428] }),
  (188, fnOb (ofS "_law_digits") (nthS Challenge.pw_no0068_01.main.body 32) (.str (ofS "law_no0068_01") 381) 187),
  (192, { cls := .type "code", data := .fields #[.str (ofS "_law_lengths") 430, .str (ofS "_law_lengths") 431, .str (ofS "/claim/cut.py") 432, .int 167 0, .int 1 0, .int 0 0, .int 0 0, .int 3 0, .ref 189, .bool true, .int 181 0, .ref 190, .none, .none, .none, .ref 191, .int 433 0, .int 167 0, .str (ofS "/claim/cut.py") 434] }),
  (193, fnOb (ofS "_law_lengths") (nthS Challenge.pw_no0068_01.main.body 33) (.str (ofS "law_no0068_01") 381) 192),
  (197, { cls := .type "code", data := .fields #[.str (ofS "_law_is_request") 436, .str (ofS "_law_is_request") 437, .str (ofS "/claim/cut.py") 438, .int 172 0, .int 1 0, .int 0 0, .int 0 0, .int 3 0, .ref 194, .bool true, .int 181 0, .ref 195, .none, .none, .none, .ref 196, .int 439 0, .int 172 0, .str (ofS "/claim/cut.py") 440] }),
  (198, fnOb (ofS "_law_is_request") (nthS Challenge.pw_no0068_01.main.body 34) (.str (ofS "law_no0068_01") 381) 197),
  (202, { cls := .type "code", data := .fields #[.str (ofS "_law_request_right") 442, .str (ofS "_law_request_right") 443, .str (ofS "/claim/cut.py") 444, .int 193 0, .int 1 0, .int 0 0, .int 0 0, .int 3 0, .ref 199, .bool true, .int 181 0, .ref 200, .none, .none, .none, .ref 201, .int 445 0, .int 193 0, .str (ofS "/claim/cut.py") 446] }),
  (203, fnOb (ofS "_law_request_right") (nthS Challenge.pw_no0068_01.main.body 35) (.str (ofS "law_no0068_01") 381) 202),
  (207, { cls := .type "code", data := .fields #[.str (ofS "_law_answer_right") 448, .str (ofS "_law_answer_right") 449, .str (ofS "/claim/cut.py") 450, .int 201 0, .int 1 0, .int 0 0, .int 0 0, .int 3 0, .ref 204, .bool true, .int 181 0, .ref 205, .none, .none, .none, .ref 206, .int 451 0, .int 201 0, .str (ofS "/claim/cut.py") 452] }),
  (208, fnOb (ofS "_law_answer_right") (nthS Challenge.pw_no0068_01.main.body 36) (.str (ofS "law_no0068_01") 381) 207),
  (214, { cls := .type "code", data := .fields #[.str (ofS "_law_size_right") 454, .str (ofS "_law_size_right") 455, .str (ofS "/claim/cut.py") 456, .int 214 0, .int 2 0, .int 0 0, .int 0 0, .int 3 0, .ref 209, .bool true, .int 181 0, .ref 210, .none, .ref 211, .ref 212, .ref 213, .int 464 0, .int 214 0, .str (ofS "/claim/cut.py") 465] }),
  (215, fnOb (ofS "_law_size_right") (nthS Challenge.pw_no0068_01.main.body 37) (.str (ofS "law_no0068_01") 381) 214),
  (219, { cls := .type "code", data := .fields #[.str (ofS "_law_small_right") 467, .str (ofS "_law_small_right") 468, .str (ofS "/claim/cut.py") 469, .int 224 0, .int 1 0, .int 0 0, .int 0 0, .int 3 0, .ref 216, .bool true, .int 181 0, .ref 217, .none, .none, .none, .ref 218, .int 470 0, .int 224 0, .str (ofS "/claim/cut.py") 471] }),
  (220, fnOb (ofS "_law_small_right") (nthS Challenge.pw_no0068_01.main.body 38) (.str (ofS "law_no0068_01") 381) 219),
  (226, { cls := .type "code", data := .fields #[.str (ofS "law") 473, .str (ofS "law") 474, .str (ofS "/claim/cut.py") 475, .int 238 0, .int 1 0, .int 0 0, .int 0 0, .int 3 0, .ref 221, .bool true, .int 181 0, .ref 222, .none, .ref 223, .ref 224, .ref 225, .int 478 0, .int 238 0, .str (ofS "/claim/cut.py") 479] }),
  (227, fnOb (ofS "law") (nthS Challenge.pw_no0068_01.main.body 39) (.str (ofS "law_no0068_01") 381) 226)]
noncomputable def kkA : List Addr := [3, 27, 28, 30, 31, 35, 36, 42, 43, 49, 50, 54, 55, 59, 60, 66, 67, 71, 72, 76, 77, 83, 84, 90, 91, 97, 98, 104, 105, 111, 112, 118, 119, 123, 124, 130, 131, 137, 138, 142, 143, 149, 150, 156, 157, 163, 164, 170, 171, 175, 176, 180, 181, 187, 188, 192, 193, 197, 198, 202, 203, 207, 208, 214, 215, 219, 220, 226, 227]

theorem kk_keys (P : Params) : kkA = (KK P).map (·.1) := rfl
/-- no name of the module's own, given anew in each part of the text -/
noncomputable def notName : Stmt → Bool
  | .Assign [.Name x _] _ _ => x != "__name__"
  | _ => true
noncomputable def viewP : Program := { Challenge.pw_no0068_01 with main := { Challenge.pw_no0068_01.main with body := Challenge.pw_no0068_01.main.body.filter notName } }
noncomputable def hookK : Hook := kmHook KK kkA kk_keys [210]
noncomputable abbrev lawRow : OpenRow := Challenge.rw_no0068_01.row
noncomputable def lawXt (s : Shared) : Bool := xlAt viewP [] s && recOk (RowW.records lawRow.toRowW) s
theorem top_open : opening lawRow.prog = plainProg lawRow.prog.main.scope.names := by kernel_rfl
theorem top_fence (s : Shared) : fenceModules? lawRow.prog s = some s := by kernel_rfl
theorem top_run (w : World) (os : OsState) : (topFrom treeTable lawRow.prog w 2544 ⟨boot_heap w.params, Array.mk [], boot_drawn, boot_toks, os⟩).map (fun s => (openSeen viewP [] (importedModules lawRow.prog.main.body) lawXt true s, Hook.obs hookK s)) = some (openGood viewP [], Hook.val hookK w) := by
  unfold topFrom
  rw [Fast.te14082659384304107361, Fast.te14364793385576792824, Fast.te4187177175401517315]
  kernel_rfl
theorem top_left : LeftO lawRow.prog viewP [] lawXt (Hook.obs hookK) (Hook.val hookK) 2544 := fun w => by
  obtain ⟨⟨h, gs, d, k, os⟩, e, e'⟩ := Option.map_eq_some_iff.mp (boot_open (p := lawRow.prog) (N := 2544) top_open (by decide +kernel) top_fence w)
  obtain ⟨rfl, rfl, rfl, rfl⟩ : h = boot_heap w.params ∧ gs = Array.mk [] ∧ d = boot_drawn ∧ k = boot_toks := by simpa using e'
  unfold openEnds
  rw [e, Option.bind_some]
  exact top_run w os
end
end

section
open PySem PySem.W PySem.Calls PyProof.Rows PySem.SeqAt
variable {c : Cx} {a : Act} {g : Heap} {s : Shared} {σ : Sg}

noncomputable abbrev K (c : Cx) : Frag := KK c.w.params
/-- what is so of the row's heap -/
structure Real (c : Cx) : Prop where
  kin : ∀ h, c.wd h → (K c).In h
  there : ∃ h, c.wd h
  built : ∀ x : PySem.Str, x ≠ ("__name__" : PySem.Str) → c.mb x = bootBuiltins x
  C : c.C = 31
  bm : ∀ h, c.wd h → BmAt c h
theorem Real.mg (R : Real c) {x : PySem.Str} {v : Value} (e : nsIn (K c) mainGlobals x = some (some v)) : c.mg x = some v := let ⟨h, w⟩ := R.there; mg_of (R.kin h w) (c.glob w) e
theorem Real.mg0 (R : Real c) {x : PySem.Str} (e : nsIn (K c) mainGlobals x = some Option.none) : c.mg x = none := let ⟨h, w⟩ := R.there; mg_none_of (R.kin h w) (c.glob w) e

noncomputable def fdOf (o : Option Obj) : FuncData := match o with
  | some ⟨_, _, .func f, _⟩ => f
  | _ => default
noncomputable def bodyOf (f : FuncData) : List Stmt := match f.body with
  | .stmts b => b
  | _ => []
noncomputable abbrev fd (c : Cx) (a : Addr) : FuncData := fdOf ((K c).lookup a)

theorem cells_above : ∀ (names : List (PySem.Str × NameKind)) (k : Nat) (acc : List (PySem.Str × Addr)) (x : PySem.Str) (b : Addr), (cellsFrom k names acc).lookup x = some b → k ≤ b ∨ acc.lookup x = some b
  | [], k, acc, x, b, h => .inr h
  | (n, kd) :: r, k, acc, x, b, h => by
    unfold cellsFrom at h
    split at h
    · rcases cells_above r (k + 1) _ x b h with h1 | h1
      · exact .inl (Nat.le_of_succ_le h1)
      · rw [List.lookup_cons] at h1
        split at h1
        · cases h1; exact .inl (Nat.le_refl _)
        · exact .inr h1
    · exact cells_above r k acc x b h
theorem cells_lt {f : FuncData} (L : Addr) (x : PySem.Str) (b : Addr) (h : (cellsFrom (L + 1) f.scope.names []).lookup x = some b) : L < b := by
  rcases cells_above _ _ _ _ _ h with h | h
  · exact h
  · cases h

/-- a function of the row -/
theorem Real.fn (R : Real c) {ad cd : Addr} {f : FuncData} {cls : Value} {dd : Option Addr} {sl : Array (Option Value)} {oc : Obj} {vs : Array Value} {t : Tok} {names : List PySem.Str} {body : List Stmt} (hl : (K c).lookup ad = some ⟨cls, dd, .func f, sl⟩) (hc : f.code = .ref cd) (hk : (K c).lookup cd = some oc) (hv : oc.data = .fields vs) (hq : vs[1]? = some (.str f.qualname t))
    (hb : f.body = .stmts body) (bind : ∀ vs : List Value, vs.length = names.length → bindArgs f ⟨vs, []⟩ = pure (names.zip vs)) (nodup : names.Nodup) (clo : f.closure = [])
    (kinds : ∀ x ∈ names, f.scope.names.lookup x = some .local ∨ (f.scope.names.lookup x = some .cell ∧ ∀ L, ((cellsFrom (L + 1) f.scope.names []).lookup x).isSome = true)) (gl : f.globals = mainGlobals) (bl : f.builtins = builtinsNs) (kd : f.scope.kind = .function) (co : f.scope.isCoroutine = false) (ge : f.scope.isGenerator = false) :
    FnData c f names body :=
  ⟨fun g w => ⟨cd, oc, vs, t, hc, R.kin g w _ _ hk, hv, hq⟩, hb, bind, nodup, clo, kinds, fun L x b h => cells_lt L x b h, gl, bl, kd, co, ge⟩
theorem Real.rd (R : Real c) {ad : Addr} {f : FuncData} {cls : Value} {dd : Option Addr} {sl : Array (Option Value)} (hl : (K c).lookup ad = some ⟨cls, dd, .func f, sl⟩) (g : Heap) (w : c.wd g) : Rd c g (.ref ad) (.fn f) := .fn (R.kin g w _ _ hl) rfl

/-- a name of the row that stands for a function -/
theorem Ev.fn {x : PySem.Str} {pos : Pos} (R : Real c) {ad : Addr} {f : FuncData} {cls : Value} {dd : Option Addr} {sl : Array (Option Value)} (hm : nsIn (K c) mainGlobals x = some (some (.ref ad))) (hl : (K c).lookup ad = some ⟨cls, dd, .func f, sl⟩) (hx : a.env.kindOf x = some .globalImplicit)
    (hd : (x == ("__debug__" : PySem.Str)) = false) : Ev c a σ (.Name x pos) (.ok (.fn f, σ.own)) := .glob (R.mg hm) (R.rd hl) hx hd
theorem Ev.built {x : PySem.Str} {pos : Pos} (R : Real c) {v : Value} {d : D} (hm : nsIn (K c) mainGlobals x = some Option.none) (hb : bootBuiltins x = some v) (hr : ∀ g, Rd c g v d) (hn : x ≠ ("__name__" : PySem.Str)) (hx : a.env.kindOf x = some .globalImplicit)
    (hd : (x == ("__debug__" : PySem.Str)) = false) : Ev c a σ (.Name x pos) (.ok (d, σ.own)) := .bltn (R.mg0 hm) ((R.built x hn).trans hb) (fun g _ => hr g) hx hd
end

section
open PySem PySem.W PySem.Calls PyProof.Rows PySem.SeqAt
variable {c : Cx}

theorem fn_init (R : Real c) : FnData c (fd c 28) ["self", "code", "text"] (bodyOf (fd c 28)) := by
  refine R.fn (ad := 28) (cd := 27) rfl rfl rfl rfl rfl rfl (fun vs h => ?_) (by decide) rfl (fun x hx => ?_) rfl rfl rfl rfl rfl
  · match vs, h with
    | [u0, u1, u2], _ => rfl
  · simp only [List.mem_cons, List.not_mem_nil, or_false] at hx; rcases hx with rfl | rfl | rfl <;> first | exact .inl rfl | exact .inr ⟨rfl, fun L => rfl⟩

theorem fn_malformed (R : Real c) : FnData c (fd c 43) ["text"] (bodyOf (fd c 43)) := by
  refine R.fn (ad := 43) (cd := 42) rfl rfl rfl rfl rfl rfl (fun vs h => ?_) (by decide) rfl (fun x hx => ?_) rfl rfl rfl rfl rfl
  · match vs, h with
    | [u0], _ => rfl
  · simp only [List.mem_cons, List.not_mem_nil, or_false] at hx; rcases hx with rfl <;> first | exact .inl rfl | exact .inr ⟨rfl, fun L => rfl⟩

theorem fn_is_name_octet (R : Real c) : FnData c (fd c 50) ["octet"] (bodyOf (fd c 50)) := by
  refine R.fn (ad := 50) (cd := 49) rfl rfl rfl rfl rfl rfl (fun vs h => ?_) (by decide) rfl (fun x hx => ?_) rfl rfl rfl rfl rfl
  · match vs, h with
    | [u0], _ => rfl
  · simp only [List.mem_cons, List.not_mem_nil, or_false] at hx; rcases hx with rfl <;> first | exact .inl rfl | exact .inr ⟨rfl, fun L => rfl⟩

theorem fn_check_name (R : Real c) : FnData c (fd c 55) ["name"] (bodyOf (fd c 55)) := by
  refine R.fn (ad := 55) (cd := 54) rfl rfl rfl rfl rfl rfl (fun vs h => ?_) (by decide) rfl (fun x hx => ?_) rfl rfl rfl rfl rfl
  · match vs, h with
    | [u0], _ => rfl
  · simp only [List.mem_cons, List.not_mem_nil, or_false] at hx; rcases hx with rfl <;> first | exact .inl rfl | exact .inr ⟨rfl, fun L => rfl⟩

theorem fn_check_value (R : Real c) : FnData c (fd c 60) ["value"] (bodyOf (fd c 60)) := by
  refine R.fn (ad := 60) (cd := 59) rfl rfl rfl rfl rfl rfl (fun vs h => ?_) (by decide) rfl (fun x hx => ?_) rfl rfl rfl rfl rfl
  · match vs, h with
    | [u0], _ => rfl
  · simp only [List.mem_cons, List.not_mem_nil, or_false] at hx; rcases hx with rfl <;> first | exact .inl rfl | exact .inr ⟨rfl, fun L => rfl⟩

theorem fn_check_field (R : Real c) : FnData c (fd c 67) ["name", "value"] (bodyOf (fd c 67)) := by
  refine R.fn (ad := 67) (cd := 66) rfl rfl rfl rfl rfl rfl (fun vs h => ?_) (by decide) rfl (fun x hx => ?_) rfl rfl rfl rfl rfl
  · match vs, h with
    | [u0, u1], _ => rfl
  · simp only [List.mem_cons, List.not_mem_nil, or_false] at hx; rcases hx with rfl | rfl <;> first | exact .inl rfl | exact .inr ⟨rfl, fun L => rfl⟩

theorem fn_number_of_digits (R : Real c) : FnData c (fd c 72) ["value"] (bodyOf (fd c 72)) := by
  refine R.fn (ad := 72) (cd := 71) rfl rfl rfl rfl rfl rfl (fun vs h => ?_) (by decide) rfl (fun x hx => ?_) rfl rfl rfl rfl rfl
  · match vs, h with
    | [u0], _ => rfl
  · simp only [List.mem_cons, List.not_mem_nil, or_false] at hx; rcases hx with rfl <;> first | exact .inl rfl | exact .inr ⟨rfl, fun L => rfl⟩

theorem fn_values_of (R : Real c) : FnData c (fd c 77) ["fields", "name"] (bodyOf (fd c 77)) := by
  refine R.fn (ad := 77) (cd := 76) rfl rfl rfl rfl rfl rfl (fun vs h => ?_) (by decide) rfl (fun x hx => ?_) rfl rfl rfl rfl rfl
  · match vs, h with
    | [u0, u1], _ => rfl
  · simp only [List.mem_cons, List.not_mem_nil, or_false] at hx; rcases hx with rfl | rfl <;> first | exact .inl rfl | exact .inr ⟨rfl, fun L => rfl⟩

theorem fn_pseudo_fields (R : Real c) : FnData c (fd c 84) ["fields", "known"] (bodyOf (fd c 84)) := by
  refine R.fn (ad := 84) (cd := 83) rfl rfl rfl rfl rfl rfl (fun vs h => ?_) (by decide) rfl (fun x hx => ?_) rfl rfl rfl rfl rfl
  · match vs, h with
    | [u0, u1], _ => rfl
  · simp only [List.mem_cons, List.not_mem_nil, or_false] at hx; rcases hx with rfl | rfl <;> first | exact .inl rfl | exact .inr ⟨rfl, fun L => rfl⟩

theorem fn_check_authority (R : Real c) : FnData c (fd c 91) ["told", "fields"] (bodyOf (fd c 91)) := by
  refine R.fn (ad := 91) (cd := 90) rfl rfl rfl rfl rfl rfl (fun vs h => ?_) (by decide) rfl (fun x hx => ?_) rfl rfl rfl rfl rfl
  · match vs, h with
    | [u0, u1], _ => rfl
  · simp only [List.mem_cons, List.not_mem_nil, or_false] at hx; rcases hx with rfl | rfl <;> first | exact .inl rfl | exact .inr ⟨rfl, fun L => rfl⟩

theorem fn_check_request (R : Real c) : FnData c (fd c 98) ["fields"] (bodyOf (fd c 98)) := by
  refine R.fn (ad := 98) (cd := 97) rfl rfl rfl rfl rfl rfl (fun vs h => ?_) (by decide) rfl (fun x hx => ?_) rfl rfl rfl rfl rfl
  · match vs, h with
    | [u0], _ => rfl
  · simp only [List.mem_cons, List.not_mem_nil, or_false] at hx; rcases hx with rfl <;> first | exact .inl rfl | exact .inr ⟨rfl, fun L => rfl⟩

theorem fn_check_answer (R : Real c) : FnData c (fd c 105) ["fields"] (bodyOf (fd c 105)) := by
  refine R.fn (ad := 105) (cd := 104) rfl rfl rfl rfl rfl rfl (fun vs h => ?_) (by decide) rfl (fun x hx => ?_) rfl rfl rfl rfl rfl
  · match vs, h with
    | [u0], _ => rfl
  · simp only [List.mem_cons, List.not_mem_nil, or_false] at hx; rcases hx with rfl <;> first | exact .inl rfl | exact .inr ⟨rfl, fun L => rfl⟩

theorem fn_check_trailer (R : Real c) : FnData c (fd c 112) ["fields"] (bodyOf (fd c 112)) := by
  refine R.fn (ad := 112) (cd := 111) rfl rfl rfl rfl rfl rfl (fun vs h => ?_) (by decide) rfl (fun x hx => ?_) rfl rfl rfl rfl rfl
  · match vs, h with
    | [u0], _ => rfl
  · simp only [List.mem_cons, List.not_mem_nil, or_false] at hx; rcases hx with rfl <;> first | exact .inl rfl | exact .inr ⟨rfl, fun L => rfl⟩

theorem fn_is_interim (R : Real c) : FnData c (fd c 119) ["status"] (bodyOf (fd c 119)) := by
  refine R.fn (ad := 119) (cd := 118) rfl rfl rfl rfl rfl rfl (fun vs h => ?_) (by decide) rfl (fun x hx => ?_) rfl rfl rfl rfl rfl
  · match vs, h with
    | [u0], _ => rfl
  · simp only [List.mem_cons, List.not_mem_nil, or_false] at hx; rcases hx with rfl <;> first | exact .inl rfl | exact .inr ⟨rfl, fun L => rfl⟩

theorem fn_content_length (R : Real c) : FnData c (fd c 124) ["fields"] (bodyOf (fd c 124)) := by
  refine R.fn (ad := 124) (cd := 123) rfl rfl rfl rfl rfl rfl (fun vs h => ?_) (by decide) rfl (fun x hx => ?_) rfl rfl rfl rfl rfl
  · match vs, h with
    | [u0], _ => rfl
  · simp only [List.mem_cons, List.not_mem_nil, or_false] at hx; rcases hx with rfl <;> first | exact .inl rfl | exact .inr ⟨rfl, fun L => rfl⟩

theorem fn_has_no_body (R : Real c) : FnData c (fd c 131) ["method", "status"] (bodyOf (fd c 131)) := by
  refine R.fn (ad := 131) (cd := 130) rfl rfl rfl rfl rfl rfl (fun vs h => ?_) (by decide) rfl (fun x hx => ?_) rfl rfl rfl rfl rfl
  · match vs, h with
    | [u0, u1], _ => rfl
  · simp only [List.mem_cons, List.not_mem_nil, or_false] at hx; rcases hx with rfl | rfl <;> first | exact .inl rfl | exact .inr ⟨rfl, fun L => rfl⟩

theorem fn_check_length (R : Real c) : FnData c (fd c 138) ["fields", "size", "is_bodiless"] (bodyOf (fd c 138)) := by
  refine R.fn (ad := 138) (cd := 137) rfl rfl rfl rfl rfl rfl (fun vs h => ?_) (by decide) rfl (fun x hx => ?_) rfl rfl rfl rfl rfl
  · match vs, h with
    | [u0, u1, u2], _ => rfl
  · simp only [List.mem_cons, List.not_mem_nil, or_false] at hx; rcases hx with rfl | rfl | rfl <;> first | exact .inl rfl | exact .inr ⟨rfl, fun L => rfl⟩

theorem fn_section_size (R : Real c) : FnData c (fd c 143) ["fields"] (bodyOf (fd c 143)) := by
  refine R.fn (ad := 143) (cd := 142) rfl rfl rfl rfl rfl rfl (fun vs h => ?_) (by decide) rfl (fun x hx => ?_) rfl rfl rfl rfl rfl
  · match vs, h with
    | [u0], _ => rfl
  · simp only [List.mem_cons, List.not_mem_nil, or_false] at hx; rcases hx with rfl <;> first | exact .inl rfl | exact .inr ⟨rfl, fun L => rfl⟩

theorem fn_joined_cookies (R : Real c) : FnData c (fd c 150) ["fields"] (bodyOf (fd c 150)) := by
  refine R.fn (ad := 150) (cd := 149) rfl rfl rfl rfl rfl rfl (fun vs h => ?_) (by decide) rfl (fun x hx => ?_) rfl rfl rfl rfl rfl
  · match vs, h with
    | [u0], _ => rfl
  · simp only [List.mem_cons, List.not_mem_nil, or_false] at hx; rcases hx with rfl <;> first | exact .inl rfl | exact .inr ⟨rfl, fun L => rfl⟩

theorem fn_law_take (R : Real c) : FnData c (fd c 157) ["box", "many"] (bodyOf (fd c 157)) := by
  refine R.fn (ad := 157) (cd := 156) rfl rfl rfl rfl rfl rfl (fun vs h => ?_) (by decide) rfl (fun x hx => ?_) rfl rfl rfl rfl rfl
  · match vs, h with
    | [u0, u1], _ => rfl
  · simp only [List.mem_cons, List.not_mem_nil, or_false] at hx; rcases hx with rfl | rfl <;> first | exact .inl rfl | exact .inr ⟨rfl, fun L => rfl⟩

theorem fn_law_code (R : Real c) : FnData c (fd c 164) ["act", "args"] (bodyOf (fd c 164)) := by
  refine R.fn (ad := 164) (cd := 163) rfl rfl rfl rfl rfl rfl (fun vs h => ?_) (by decide) rfl (fun x hx => ?_) rfl rfl rfl rfl rfl
  · match vs, h with
    | [u0, u1], _ => rfl
  · simp only [List.mem_cons, List.not_mem_nil, or_false] at hx; rcases hx with rfl | rfl <;> first | exact .inl rfl | exact .inr ⟨rfl, fun L => rfl⟩

theorem fn_law_request (R : Real c) : FnData c (fd c 171) ["box"] (bodyOf (fd c 171)) := by
  refine R.fn (ad := 171) (cd := 170) rfl rfl rfl rfl rfl rfl (fun vs h => ?_) (by decide) rfl (fun x hx => ?_) rfl rfl rfl rfl rfl
  · match vs, h with
    | [u0], _ => rfl
  · simp only [List.mem_cons, List.not_mem_nil, or_false] at hx; rcases hx with rfl <;> first | exact .inl rfl | exact .inr ⟨rfl, fun L => rfl⟩

theorem fn_law_spoilt (R : Real c) : FnData c (fd c 176) ["box", "fields"] (bodyOf (fd c 176)) := by
  refine R.fn (ad := 176) (cd := 175) rfl rfl rfl rfl rfl rfl (fun vs h => ?_) (by decide) rfl (fun x hx => ?_) rfl rfl rfl rfl rfl
  · match vs, h with
    | [u0, u1], _ => rfl
  · simp only [List.mem_cons, List.not_mem_nil, or_false] at hx; rcases hx with rfl | rfl <;> first | exact .inl rfl | exact .inr ⟨rfl, fun L => rfl⟩

theorem fn_law_plain (R : Real c) : FnData c (fd c 181) ["fields"] (bodyOf (fd c 181)) := by
  refine R.fn (ad := 181) (cd := 180) rfl rfl rfl rfl rfl rfl (fun vs h => ?_) (by decide) rfl (fun x hx => ?_) rfl rfl rfl rfl rfl
  · match vs, h with
    | [u0], _ => rfl
  · simp only [List.mem_cons, List.not_mem_nil, or_false] at hx; rcases hx with rfl <;> first | exact .inl rfl | exact .inr ⟨rfl, fun L => rfl⟩

theorem fn_law_digits (R : Real c) : FnData c (fd c 188) ["value"] (bodyOf (fd c 188)) := by
  refine R.fn (ad := 188) (cd := 187) rfl rfl rfl rfl rfl rfl (fun vs h => ?_) (by decide) rfl (fun x hx => ?_) rfl rfl rfl rfl rfl
  · match vs, h with
    | [u0], _ => rfl
  · simp only [List.mem_cons, List.not_mem_nil, or_false] at hx; rcases hx with rfl <;> first | exact .inl rfl | exact .inr ⟨rfl, fun L => rfl⟩

theorem fn_law_lengths (R : Real c) : FnData c (fd c 193) ["fields"] (bodyOf (fd c 193)) := by
  refine R.fn (ad := 193) (cd := 192) rfl rfl rfl rfl rfl rfl (fun vs h => ?_) (by decide) rfl (fun x hx => ?_) rfl rfl rfl rfl rfl
  · match vs, h with
    | [u0], _ => rfl
  · simp only [List.mem_cons, List.not_mem_nil, or_false] at hx; rcases hx with rfl <;> first | exact .inl rfl | exact .inr ⟨rfl, fun L => rfl⟩

theorem fn_law_is_request (R : Real c) : FnData c (fd c 198) ["fields"] (bodyOf (fd c 198)) := by
  refine R.fn (ad := 198) (cd := 197) rfl rfl rfl rfl rfl rfl (fun vs h => ?_) (by decide) rfl (fun x hx => ?_) rfl rfl rfl rfl rfl
  · match vs, h with
    | [u0], _ => rfl
  · simp only [List.mem_cons, List.not_mem_nil, or_false] at hx; rcases hx with rfl <;> first | exact .inl rfl | exact .inr ⟨rfl, fun L => rfl⟩

theorem fn_law_request_right (R : Real c) : FnData c (fd c 203) ["box"] (bodyOf (fd c 203)) := by
  refine R.fn (ad := 203) (cd := 202) rfl rfl rfl rfl rfl rfl (fun vs h => ?_) (by decide) rfl (fun x hx => ?_) rfl rfl rfl rfl rfl
  · match vs, h with
    | [u0], _ => rfl
  · simp only [List.mem_cons, List.not_mem_nil, or_false] at hx; rcases hx with rfl <;> first | exact .inl rfl | exact .inr ⟨rfl, fun L => rfl⟩

theorem fn_law_answer_right (R : Real c) : FnData c (fd c 208) ["box"] (bodyOf (fd c 208)) := by
  refine R.fn (ad := 208) (cd := 207) rfl rfl rfl rfl rfl rfl (fun vs h => ?_) (by decide) rfl (fun x hx => ?_) rfl rfl rfl rfl rfl
  · match vs, h with
    | [u0], _ => rfl
  · simp only [List.mem_cons, List.not_mem_nil, or_false] at hx; rcases hx with rfl <;> first | exact .inl rfl | exact .inr ⟨rfl, fun L => rfl⟩

theorem fn_law_size_right (R : Real c) : FnData c (fd c 215) ["box", "fields"] (bodyOf (fd c 215)) := by
  refine R.fn (ad := 215) (cd := 214) rfl rfl rfl rfl rfl rfl (fun vs h => ?_) (by decide) rfl (fun x hx => ?_) rfl rfl rfl rfl rfl
  · match vs, h with
    | [u0, u1], _ => rfl
  · simp only [List.mem_cons, List.not_mem_nil, or_false] at hx; rcases hx with rfl | rfl <;> first | exact .inl rfl | exact .inr ⟨rfl, fun L => rfl⟩

theorem fn_law_small_right (R : Real c) : FnData c (fd c 220) ["box"] (bodyOf (fd c 220)) := by
  refine R.fn (ad := 220) (cd := 219) rfl rfl rfl rfl rfl rfl (fun vs h => ?_) (by decide) rfl (fun x hx => ?_) rfl rfl rfl rfl rfl
  · match vs, h with
    | [u0], _ => rfl
  · simp only [List.mem_cons, List.not_mem_nil, or_false] at hx; rcases hx with rfl <;> first | exact .inl rfl | exact .inr ⟨rfl, fun L => rfl⟩
end


section
open PySem PySem.W PySem.Calls PyProof.Rows PySem.SeqAt
variable {c : Cx} {a : Act} {g : Heap} {s : Shared} {σ : Sg}

noncomputable def nameSigns : List UInt8 := [33, 35, 36, 37, 38, 39, 42, 43, 45, 46, 94, 95, 96, 124, 126]
noncomputable def isNameOctet (i : Int) : Bool := (decide (97 ≤ i) && decide (i ≤ 122)) || ((decide (48 ≤ i) && decide (i ≤ 57)) || nameSigns.contains i.toNat.toUInt8)

theorem ok_is_name_octet (R : Real c) (i : Int) (h0 : 0 ≤ i) (h1 : i < 256) (hn : 1 ≤ a.n) : CallOk c a σ (.fn (fd c 50)) [.int i] (.ok (.bool (isNameOctet i), σ.own)) := by
  refine call_pure (fn_is_name_octet R) (n := 0) (r := .ok (.bool (isNameOctet i))) rfl hn fun A m L fa F g0 s0 hm => ?_
  refine Body.ret (ω := []) (.ret (.ret (.bool_ ?_))) (by simp)
  refine .or (.chain (.int _ _ _) (.name rfl) (.int _ _ _) (.le _ _) (.le _ _)) fun _ => .or (.chain (.int _ _ _) (.name rfl) (.int _ _ _) (.le _ _) (.le _ _)) fun _ => .one ?_
  exact .cmp (.name rfl) (.glob (R.mg rfl) (fun g w => .bytes nameSigns _) rfl) (.inBytesInt nameSigns i h0 h1)
theorem Real.err (R : Real c) : ErrCls c 28 (fd c 28) (bodyOf (fd c 28)) where
  cls := fun h w => by
    have ho := R.kin h w 30 _ rfl
    rw [R.C]
    refine ⟨_, _, 30, _, _, _, _, _, _, _, _, _, _, _, h.nsMap 30, R.kin h w 31 _ rfl, Heap.Ns.of_isNs (by unfold Heap.isNs; rw [ho]; simp), ?_, ?_, ?_, ?_, ?_, ?_⟩ <;> (unfold Heap.nsMap; rw [ho]; rfl)
  fn := fun h w => ⟨_, R.kin h w 28 _ rfl, rfl, rfl⟩
  data := fn_init R

theorem ok_malformed (R : Real c) (x : PySem.Str) (hx : x.length ≤ 1000) (hn : 3 ≤ a.n) : CallOk c a σ (.fn (fd c 43)) [.str x] .err := by
  refine call_pure (fn_malformed R) (n := 2) (r := .err) rfl hn fun A m L fa F g0 s0 hm => ?_
  refine Body.err (.err ?_)
  refine Ex.raise (x := x) (ω := []) R.err rfl rfl rfl rfl rfl rfl (R.mg0 rfl) (R.built _ (by decide)) (R.mg0 rfl) (R.built _ (by decide)) hx rfl hm (.glob (R.mg rfl) (fun g w => ?_) rfl) (.cons (.glob (R.mg rfl) (fun g w => .int 270 _) rfl) (.cons (.name rfl) .nil))
  rw [R.C]; exact .adr _
theorem Ev.len {x : D} {k : Nat} {e : Expr} {np pos : Pos} (R : Real c) (h : EvAll c a σ pos [e] (.ok ([x], σ.own))) (hc : ∀ σ, CallOk c a σ (.blt "len") [x] (.ok (.int k, σ.own))) (hx : a.env.kindOf "len" = some .globalImplicit)
    (he : starEach [e] a.env = (false, eval e a.env) :: starEach [] a.env := by rfl) (hplain : (backTo pos (starEach [] a.env)).any (·.1) = false := by rfl) : Ev c a σ (.Call (.Name "len" np) [e] [] pos) (.ok (.int k, σ.own)) :=
  .call (f := .blt "len") trivial (.built R rfl rfl (fun _ => .blt _) (by decide) hx (by decide)) h (hc _) he hplain

noncomputable def bare (b : List UInt8) : List UInt8 := if cutOf b none (some 1) == [58] then cutOf b (some 1) none else b
noncomputable def badName (b : List UInt8) : Bool := (((bare b).length : Int) == 0) || (bare b).any fun x => !isNameOctet x.toNat

theorem octet_lt (x : UInt8) : (0 : Int) ≤ x.toNat ∧ (x.toNat : Int) < 256 := ⟨Int.natCast_nonneg _, by have := x.toNat_lt; omega⟩

theorem ok_check_name (R : Real c) (b : List UInt8) (hz : b.length ≤ 1000) (hn : 4 ≤ a.n) : CallOk c a σ (.fn (fd c 55)) [.bytes b] ((boolOut (!badName b)).with σ.own) := by
  refine call_pure (fn_check_name R) (n := 3) (r := boolOut (!badName b)) rfl hn fun A m L fa F g0 s0 hm => ?_
  have hzb : (bare b).length ≤ 1000 := by
    unfold bare; split
    · unfold cutOf; simp; omega
    · exact hz
  refine .step (.assign (d := .bytes (bare b)) (Ev.cast (.ite (.cmp (.sliceB (.name rfl) .none (.lit 1 _ _) (by omega)) (.bytes [58] _ _) (.eq (.bytes _ _))) (fun _ => .sliceB (.name rfl) (.lit 1 _ _) .none (by omega)) (fun _ => .name rfl)) ?_) (.inl rfl)) ?_
  · unfold bare; split <;> rfl
  refine .cast (.guard (b := badName b) (b' := true) (d := .none) (.ifB ?_ fun _ => .err (.exprErr (.call (f := .fn (fd c 43)) trivial (.fn R rfl rfl rfl (by decide)) (.cons (.str _ _ _) .nil) (ok_malformed R _ (by decide +kernel) (by omega))))) fun _ => ?_) (by unfold boolOut; cases badName b <;> rfl)
  · refine Tr.cast (.bool (.or (.cmp (.len R (.cons (.name rfl) .nil) (fun σ => .lenB (bare b) (by omega)) rfl) (.int 0 _ _) (.eq (.int _ _))) fun _ => .or (.neNil (.octets (fun x => !isNameOctet x.toNat) (.name rfl) (.none rfl rfl rfl rfl) hzb rfl (by decide) (by decide) fun C g0 s0 x _ ζ => ?_)) fun _ => .orN)) ?_
    · exact .not (.plain (.call (f := .fn (fd c 50)) trivial (.fn R rfl rfl rfl (by decide)) (.cons (.name rfl) .nil) (ok_is_name_octet R x.toNat (octet_lt x).1 (octet_lt x).2 (by show 1 ≤ m; omega))))
    · rw [filter_some, Bool.or_false]; rfl
  · exact .nil (by simp)

/-- the call of malformed, as a statement of its own -/
theorem Exs.malformed {x : PySem.Str} {k : Nat} {p1 p2 p3 p4 : Pos} (R : Real c) (hx : x.length ≤ 1000) (hn : 3 ≤ a.n) (hk : a.env.kindOf "malformed" = some .globalImplicit) (hi : interactive a.env = false := by rfl) : Exs c a σ [.Expr (.Call (.Name "malformed" p1) [.Constant (.str x) k p2] [] p3) p4] .err :=
  .err (.exprErr (.call (f := .fn (fd c 43)) trivial (.fn R rfl rfl hk (by decide)) (.cons (.str _ _ _) .nil) (ok_malformed R _ hx hn)) hi)

noncomputable def badOctets (v : List UInt8) : Bool := v.any fun x => ([0, 10, 13] : List Int).contains x.toNat
noncomputable def badEnds (v : List UInt8) : Bool := ([[32], [9]] : List (List UInt8)).contains (cutOf v none (some 1)) || (([[32], [9]] : List (List UInt8)).contains (cutOf v (some (-1)) none) || false)
noncomputable def badValue (v : List UInt8) : Bool := badOctets v || badEnds v

theorem ok_check_value (R : Real c) (v : List UInt8) (hz : v.length ≤ 1000) (hn : 4 ≤ a.n) : CallOk c a σ (.fn (fd c 60)) [.bytes v] ((boolOut (!badValue v)).with σ.own) := by
  refine call_pure (fn_check_value R) (n := 3) (r := boolOut (!badValue v)) rfl hn fun A m L fa F g0 s0 hm => ?_
  refine .cast (.guard (b := badOctets v) (b' := !badEnds v) (d := .none) (.ifB ?_ fun _ => .malformed R (by decide +kernel) (by omega) rfl) fun _ => .cast (.guard (b := badEnds v) (b' := true) (d := .none) (.ifB ?_ fun _ => .malformed R (by decide +kernel) (by omega) rfl) fun _ => .nil (by simp)) ?_) ?_
  · refine Tr.cast (.neNil (.octets (fun x => ([0, 10, 13] : List Int).contains x.toNat) (.name rfl) (.none rfl rfl rfl rfl) hz rfl (by decide) (by decide) fun C g0 s0 x _ ζ => ?_)) (by rw [filter_some]; rfl)
    exact .cmp (.name rfl) (.tuple (.cons (.int _ _ _) (.cons (.int _ _ _) (.cons (.int _ _ _) .nil)))) (.inTupI _ [0, 10, 13])
  · exact .bool (.or (.cmp (.sliceB (.name rfl) .none (.lit 1 _ _) (by omega)) (.tuple (.cons (.bytes _ _ _) (.cons (.bytes _ _ _) .nil))) (.inTupB _ [[32], [9]])) fun _ => .or (.cmp (.sliceB (.name rfl) (.neg 1 _ _ _) .none (by omega)) (.tuple (.cons (.bytes _ _ _) (.cons (.bytes _ _ _) .nil))) (.inTupB _ [[32], [9]])) fun _ => .orN)
  · cases badEnds v <;> rfl
  · unfold boolOut badValue; cases badOctets v <;> cases badEnds v <;> rfl

theorem Ev.lenB {b : List UInt8} {e : Expr} {np pos : Pos} (R : Real c) (h : EvAll c a σ pos [e] (.ok ([.bytes b], σ.own))) (hz : b.length ≤ 1000) (hx : a.env.kindOf "len" = some .globalImplicit)
    (he : starEach [e] a.env = (false, eval e a.env) :: starEach [] a.env := by rfl) (hplain : (backTo pos (starEach [] a.env)).any (·.1) = false := by rfl) : Ev c a σ (.Call (.Name "len" np) [e] [] pos) (.ok (.int b.length, σ.own)) :=
  .len R h (fun _ => .lenB b (by omega)) hx he hplain
/-- what has a length -/
inductive LenOk : D → Nat → Prop
  | bytes (b : List UInt8) : b.length ≤ 1000 → LenOk (.bytes b) b.length
  | lst (b : List D) : b.length ≤ 1000 → LenOk (.lst b) b.length
theorem Ev.len2 {x : D} {k : Nat} {e : Expr} {np pos : Pos} (R : Real c) (h : EvAll c a σ pos [e] (.ok ([x], σ.own))) (hk : LenOk x k) (hx : a.env.kindOf "len" = some .globalImplicit)
    (he : starEach [e] a.env = (false, eval e a.env) :: starEach [] a.env := by rfl) (hplain : (backTo pos (starEach [] a.env)).any (·.1) = false := by rfl) : Ev c a σ (.Call (.Name "len" np) [e] [] pos) (.ok (.int k, σ.own)) := by
  cases hk with
  | bytes b hz => exact .len R h (fun _ => .lenB b (by omega)) hx he hplain
  | lst b hz => exact .len R h (fun _ => .lenL b (by omega)) hx he hplain
/-- what may be cut -/
inductive CutOk (value : Expr) : D → Option Int → Option Int → D → Prop
  | bytes (b : List UInt8) (l u : Option Int) : b.length ≤ 1000 → (∀ b t r, letTemporaryGo value (Value.bytes b t) r = pure ()) → CutOk value (.bytes b) l u (.bytes (cutOf b l u))
  | lst (b : List D) (l u : Option Int) : b.length ≤ 1000 → (∀ b r, letTemporaryGo value (Value.ref b) r = pure ()) → CutOk value (.lst b) l u (.lst (cutOf b l u))
theorem Ev.slice2 {value : Expr} {lo hi : Option Expr} {p pos : Pos} {x z : D} {l u : Option Int} (h1 : Ev c a σ value (.ok (x, σ.own))) (h2 : Part c a σ lo l) (h3 : Part c a σ hi u) (h4 : CutOk value x l u z) :
    Ev c a σ (.Subscript value (.Slice lo hi .none p) pos) (.ok (z, σ.own)) := by
  cases h4 with
  | bytes b l u hz ht => exact .sliceB h1 h2 h3 (by omega) ht
  | lst b l u hz ht => exact .sliceL h1 h2 h3 hz ht
theorem Ev.lenL {b : List D} {e : Expr} {np pos : Pos} (R : Real c) (h : EvAll c a σ pos [e] (.ok ([.lst b], σ.own))) (hz : b.length ≤ 1000) (hx : a.env.kindOf "len" = some .globalImplicit)
    (he : starEach [e] a.env = (false, eval e a.env) :: starEach [] a.env := by rfl) (hplain : (backTo pos (starEach [] a.env)).any (·.1) = false := by rfl) : Ev c a σ (.Call (.Name "len" np) [e] [] pos) (.ok (.int b.length, σ.own)) :=
  .len R h (fun _ => .lenL b (by omega)) hx he hplain
theorem lookup_here {p : Addr} {d : D} {r : Own} : List.lookup p ((p, d) :: r) = some d := by simp
theorem setOwn_here {p : Addr} {d e : D} {r : Own} : setOwn ((p, e) :: r) p d = (p, d) :: r := by simp [setOwn]
theorem delOwn_here {p : Addr} {e : D} {r : Own} : delOwn ((p, e) :: r) p = r := by simp [delOwn]
theorem Ev.negLit (i : Int) (k pos pos') : Ev c a σ (.UnaryOp .USub (.Constant (.int i) k pos) pos') (.ok (.int (-i), σ.own)) := .of fun g s H =>
  UnaryOp_ (wpAny_Constant_int (neg_int ⟨g, (Mv.toks H.stays _).trans (Mv.toks (s := { s with toks := s.toks + 1 }) H.stays _), .int _ _⟩))
end


section
open PySem PySem.W PySem.Calls PyProof.Rows PySem.SeqAt
variable {c : Cx} {a : Act} {g : Heap} {s : Shared} {σ : Sg}

noncomputable def connNames : List (List UInt8) := [[99, 111, 110, 110, 101, 99, 116, 105, 111, 110], [107, 101, 101, 112, 45, 97, 108, 105, 118, 101], [112, 114, 111, 120, 121, 45, 99, 111, 110, 110, 101, 99, 116, 105, 111, 110], [116, 114, 97, 110, 115, 102, 101, 114, 45, 101, 110, 99, 111, 100, 105, 110, 103], [117, 112, 103, 114, 97, 100, 101]]
noncomputable def reqNames : List (List UInt8) := [[58, 109, 101, 116, 104, 111, 100], [58, 115, 99, 104, 101, 109, 101], [58, 97, 117, 116, 104, 111, 114, 105, 116, 121], [58, 112, 97, 116, 104]]
theorem RdAll.bytes (g : Heap) : ∀ {vs : List Value}, (∀ v ∈ vs, ∃ b t, v = .bytes b t) → RdAll c g vs (vs.map fun v => match v with | .bytes b _ => .bytes b.toList | _ => .none)
  | [], _ => .nil
  | v :: r, h => by
    obtain ⟨b, t, rfl⟩ := h v (.head _)
    exact .cons (.bytes b.toList t) (RdAll.bytes g fun v hv => h v (.tail _ hv))
theorem Real.tupB (R : Real c) {ad : Addr} {vs : Array Value} {n : Nat} {bs : List (List UInt8)} (hl : (K c).lookup ad = some { cls := .type "tuple", data := .seq vs n }) (hb : ∀ g, RdAll c g vs.toList (bs.map .bytes)) (g : Heap) (w : c.wd g) : Rd c g (.ref ad) (.tup (bs.map .bytes)) :=
  .tup (vs := vs.toList) ⟨_, R.kin g w _ _ hl, rfl, n, by simp⟩ (hb g)

theorem ev_conn (R : Real c) {p : Pos} (hx : a.env.kindOf "CONNECTION_NAMES" = some .globalImplicit) : Ev c a σ (.Name "CONNECTION_NAMES" p) (.ok (.tup (connNames.map .bytes), σ.own)) :=
  .glob (R.mg rfl) (R.tupB rfl fun g => .cons (.bytes _ _) (.cons (.bytes _ _) (.cons (.bytes _ _) (.cons (.bytes _ _) (.cons (.bytes _ _) .nil))))) hx
theorem ev_req (R : Real c) {p : Pos} (hx : a.env.kindOf "REQUEST_NAMES" = some .globalImplicit) : Ev c a σ (.Name "REQUEST_NAMES" p) (.ok (.tup (reqNames.map .bytes), σ.own)) :=
  .glob (R.mg rfl) (R.tupB rfl fun g => .cons (.bytes _ _) (.cons (.bytes _ _) (.cons (.bytes _ _) (.cons (.bytes _ _) .nil)))) hx

noncomputable def badConn (n v : List UInt8) : Bool := connNames.contains n || ((n == [116, 101] && (v != [116, 114, 97, 105, 108, 101, 114, 115] && true)) || false)
noncomputable def okField (n v : List UInt8) : Bool := !badName n && (!badValue v && !badConn n v)

theorem ok_check_field (R : Real c) (b v : List UInt8) (hb : b.length ≤ 1000) (hv : v.length ≤ 1000) (hn : 5 ≤ a.n) : CallOk c a σ (.fn (fd c 67)) [.bytes b, .bytes v] ((boolOut (okField b v)).with σ.own) := by
  refine call_pure (fn_check_field R) (n := 4) (r := boolOut (okField b v)) rfl hn fun A m L fa F g0 s0 hm => ?_
  refine .cast (.guard (b := badName b) (b' := !badValue v && !badConn b v) (d := .none) (.callB (.call (f := .fn (fd c 55)) trivial (.fn R rfl rfl rfl (by decide)) (by exact EvAll.cons (Ev.name rfl) EvAll.nil) (ok_check_name R b hb (by omega)))) fun _ => .cast (.guard (b := badValue v) (b' := !badConn b v) (d := .none) (.callB (.call (f := .fn (fd c 60)) trivial (.fn R rfl rfl rfl (by decide)) (by exact EvAll.cons (Ev.name rfl) EvAll.nil) (ok_check_value R v hv (by omega)))) fun _ => .cast (.guard (b := badConn b v) (b' := true) (d := .none) (.ifB ?_ fun _ => .malformed R (by decide +kernel) (by show 3 ≤ m; omega) rfl) fun _ => .nil (by simp)) ?_) rfl) rfl
  · refine Tr.bool (TrL.or (.cmp (by exact Ev.name rfl) (by exact ev_conn (by assumption) rfl) (.inTupB _ connNames)) fun _ => TrL.or (by exact Tr.bool (TrL.and (Tr.cmp (Ev.name rfl) (Ev.bytes _ _ _) (Bin.eq (EqD.bytes _ _))) (fun _ => (TrL.and (Tr.cmp (Ev.name rfl) (Ev.bytes _ _ _) (Bin.ne (EqD.bytes _ _))) (fun _ => TrL.andN))))) fun _ => .orN)
  · simp
end


section
open PySem PySem.W PySem.Calls PyProof.Rows PySem.SeqAt
variable {c : Cx} {a : Act} {g : Heap} {s : Shared} {σ : Sg}

noncomputable abbrev Bs := List UInt8
noncomputable abbrev Fld := Bs × Bs
noncomputable def fldD (f : Fld) : D := .tup [.bytes f.1, .bytes f.2]
noncomputable def fldsD (l : List Fld) : D := .lst (l.map fldD)
noncomputable def dctD (l : List Fld) : D := .dct (l.map fun f => (f.1, .bytes f.2))
/-- fields of small size -/
structure Sm (l : List Fld) : Prop where
  len : l.length ≤ 50
  name : ∀ f ∈ l, f.1.length ≤ 50
  val : ∀ f ∈ l, f.2.length ≤ 50
noncomputable def outO {α : Type} (f : α → D) : Option α → Out D
  | some x => .ok (f x)
  | none => .err

theorem foldT_go {α β : Type} (f : β → α → β) : ∀ (xs : List α) (b : β), foldT (fun b x => .go (f b x)) b xs = .go (xs.foldl f b)
  | [], b => rfl
  | x :: r, b => by rw [foldT]; exact foldT_go f r (f b x)
theorem mulOk10 (i : Int) : IntMulOk i 10 := by
  unfold IntMulOk
  have : ¬ (Builtin.Int.intBits 10 > shortFactorBits) := by decide +kernel
  rw [decide_eq_false this]; simp

theorem Ex.ifT {test : Expr} {body orelse : List Stmt} {pos : Pos} {ω : Own} {o : Out Fin} (h : Tr c a σ test (.ok (true, ω))) (hT : Exs c a ⟨σ.loc, ω⟩ body o) : Ex c a σ (.If test body orelse pos) o := .if_ h (fun _ => hT) fun q => by cases q
theorem Ex.ifF {test : Expr} {body orelse : List Stmt} {pos : Pos} {ω : Own} {o : Out Fin} (h : Tr c a σ test (.ok (false, ω))) (hF : Exs c a ⟨σ.loc, ω⟩ orelse o) : Ex c a σ (.If test body orelse pos) o := .if_ h (fun q => by cases q) fun _ => hF
theorem Exs.one {st : Stmt} {o : Out Fin} (h : Ex c a σ st o) : Exs c a σ [st] o := by
  cases o with
  | err => exact .err h
  | ok f =>
    cases f with
    | next σ' => exact .cons h .nil
    | ret d ω => exact .ret h

noncomputable def isDigit (x : UInt8) : Bool := decide ((48 : Int) ≤ x.toNat) && decide ((x.toNat : Int) ≤ 57)
noncomputable def badDigits (v : Bs) : Bool := ((v.length : Int) == 0) || v.any fun x => !isDigit x
noncomputable def digitsOf (v : Bs) : Int := v.foldl (fun n x => n * 10 + x.toNat - 48) 0
noncomputable def num (v : Bs) : Option Int := if badDigits v then none else some (digitsOf v)

theorem ok_digits (R : Real c) (v : Bs) (hv : v.length ≤ 1000) (hn : 4 ≤ a.n) : CallOk c a σ (.fn (fd c 72)) [.bytes v] ((outO .int (num v)).with σ.own) := by
  refine call_pure (fn_number_of_digits R) (n := 3) (r := outO .int (num v)) rfl hn fun A m L fa F g0 s0 hm => ?_
  refine .cast (.ofR (ω := []) (.guard (b := badDigits v) (r := .ok (.int (digitsOf v))) ?_ (fun _ => .malformed R (by decide +kernel) (by show 3 ≤ m; omega) rfl) fun _ => ?_) (by simp)) ?_
  · refine Tr.cast (.bool (.or (by exact Tr.cmp (Ev.len2 (by assumption) (EvAll.cons (Ev.name rfl) EvAll.nil) (LenOk.bytes _ (by assumption)) rfl) (Ev.int _ _ _) (Bin.eq (EqD.int _ _))) fun _ => .or (.neNil (.octets (fun x => !isDigit x) (.name rfl) (.none rfl rfl rfl rfl) hv rfl (by decide) (by decide) fun C g0 s0 x _ ζ => ?_)) fun _ => .orN)) ?_
    · refine Tr.not (Tr.cast (by exact Tr.chain (Ev.int _ _ _) (Ev.name rfl) (Ev.int _ _ _) (Bin.le _ _) (Bin.le _ _)) ?_); rfl
    · rw [filter_some, Bool.or_false]; rfl
  · refine .cons (.assign (d := .int 0) (by exact Ev.int _ _ _) (.inl rfl)) (.cons (Ex.cast (Ex.forT (fun n : Int => ⟨[("value", .bytes v), ("found", .int n)], []⟩) (fun x : UInt8 => .int x.toNat) (fun n x => .go (n * 10 + x.toNat - 48)) (fun n x => [("octet", .int x.toNat), ("value", .bytes v), ("found", .int n)]) (fun _ _ => True) v 0 (.name rfl) (.bytes v) ⟨rfl, rfl, trivial⟩ trivial (fun _ _ _ _ _ _ => trivial) (fun n x r ζ _ => .name (.inl rfl)) (fun n x r ζ _ => ?_)) (o' := .ok (.next ⟨[("value", .bytes v), ("found", .int (digitsOf v))], []⟩)) ?_) (.retE (.name rfl)))
    · exact Exs.forget (.cons (.assign (.bin (.bin (.bin (.name rfl) (.int _ _ _) (.mul _ _ (mulOk10 n))) (.name rfl) (.add _ _)) (.int _ _ _) (.sub _ _)) (.inl rfl)) .nil) ⟨rfl, rfl, trivial⟩
    · rw [foldT_go]; rfl
  · unfold num outO; cases badDigits v <;> rfl

/-! rows of pairs -/
theorem As.pair {x y : PySem.Str} {p q r : Pos} {k : Nat} {d e : D} (hx : Stores a x) (hy : Stores a y) : As c a σ (.Tuple [.Name x p, .Name y q] k r) (.tup [d, e]) ⟨(y, e) :: (x, d) :: σ.loc, σ.own⟩ := .tuple (.cons (.name hx) (.cons (.name hy) .nil))
theorem CTurns.flds {b : Act} {lc : List (PySem.Str × D)} {x y : PySem.Str} {p q r : Pos} {k : Nat} {ifs : List Expr} {elt : Expr} (P : Fld → Bool) (el : Fld → D) (l : List Fld) (hx : Stores b x) (hy : Stores b y) (nx : lc.lookup x = Option.none) (ny : lc.lookup y = Option.none)
    (hT : ∀ f ∈ l, ∀ ζ, Tst c b ⟨(y, .bytes f.2) :: (x, .bytes f.1) :: lc, ζ⟩ ifs (.ok (P f, ζ))) (hE : ∀ f ∈ l, P f = true → ∀ ζ, Ev c b ⟨(y, .bytes f.2) :: (x, .bytes f.1) :: lc, ζ⟩ elt (.ok (el f, ζ))) :
    CTurns c b lc (.Tuple [.Name x p, .Name y q] k r) ifs elt [] (l.map fldD) (.ok ((l.filter P).map el, [])) :=
  .over fldD (fun f => (y, .bytes f.2) :: (x, .bytes f.1) :: lc) P el l (fun f _ ζ => .pair hx hy) (fun f _ z e h => by
    rw [List.lookup_cons]
    cases q : z == y with
    | true => rw [eq_of_beq q, ny] at h; cases h
    | false =>
      dsimp only; rw [List.lookup_cons]
      cases q : z == x with
      | true => rw [eq_of_beq q, nx] at h; cases h
      | false => exact h) hT hE
theorem Ev.compF {elt iter : Expr} {x y : PySem.Str} {p q r : Pos} {k : Nat} {ifs : List Expr} {scope : Scope} {pos : Pos} {cl : List (PySem.Str × Addr)} {lc : List (PySem.Str × D)} {l : List Fld} (P : Fld → Bool) (el : Fld → D)
    (h : Ev c a σ iter (.ok (fldsD l, σ.own))) (cg : Caught a σ.loc scope cl lc) (hz : l.length ≤ 1000) (hx : (relabel scope a.env).names.lookup x = some NameKind.local) (hy : (relabel scope a.env).names.lookup y = some NameKind.local) (nx : lc.lookup x = Option.none) (ny : lc.lookup y = Option.none)
    (hT : ∀ C g0 s0, ∀ f ∈ l, ∀ ζ, Tst c (compAct a scope cl C g0 s0 []) ⟨(y, .bytes f.2) :: (x, .bytes f.1) :: lc, ζ⟩ ifs (.ok (P f, ζ)))
    (hE : ∀ C g0 s0, ∀ f ∈ l, P f = true → ∀ ζ, Ev c (compAct a scope cl C g0 s0 []) ⟨(y, .bytes f.2) :: (x, .bytes f.1) :: lc, ζ⟩ elt (.ok (el f, ζ)))
    (hs : ∀ x, foldedSetIterable iter a.env x = pure x := by intro _; rfl) : Ev c a σ (.ListComp elt [⟨.Tuple [.Name x p, .Name y q] k r, iter, ifs, 0⟩] scope pos) (.ok (.lst ((l.filter P).map el), σ.own)) :=
  .compV (ωo := []) h (.lst _) cg (by simpa using hz) (fun C g0 s0 => .flds P el l (.inl hx) (.inl hy) nx ny (hT C g0 s0) (hE C g0 s0)) hs

noncomputable def valuesOf (l : List Fld) (n : Bs) : List Bs := (l.filter fun f => f.1 == n).map (·.2)
noncomputable def valsD (l : List Bs) : D := .lst (l.map .bytes)
theorem ok_values (R : Real c) (l : List Fld) (n : Bs) (hz : l.length ≤ 1000) (hn : 1 ≤ a.n) : CallOk c a σ (.fn (fd c 77)) [fldsD l, .bytes n] (.ok (valsD (valuesOf l n), σ.own)) := by
  refine call_pure (fn_values_of R) (n := 0) (r := .ok (valsD (valuesOf l n))) rfl hn fun A m L fa F g0 s0 hm => ?_
  refine Body.ofR (ω := []) (.retE (.cast (.compF (fun f => f.1 == n) (fun f => .bytes f.2) (.name rfl) (.of [("name", _, _)] rfl ⟨rfl, rfl, .inl rfl, .inl rfl, trivial⟩ rfl rfl rfl) hz rfl rfl rfl rfl (fun C g0 s0 f _ ζ => .one ?_) (fun C g0 s0 f _ _ ζ => ?_)) ?_)) (by simp)
  · exact Tr.cmp (Ev.name rfl) (Ev.name rfl) (Bin.eq (EqD.bytes _ _))
  · exact Ev.name rfl
  · unfold valsD valuesOf; rw [List.map_map]; rfl
end


section
open PySem PySem.W PySem.Calls PyProof.Rows PySem.SeqAt
variable {c : Cx} {a : Act} {g : Heap} {s : Shared} {σ : Sg}

noncomputable def pseudoStep (known : List Bs) (b : Bool × List Fld) (f : Fld) : Tn (Bool × List Fld) :=
  if okField f.1 f.2 then (if cutOf f.1 none (some 1) != [58] then .go (true, b.2) else if b.1 || (!known.contains f.1 || (((b.2.map fun f => (f.1, D.bytes f.2)).lookup f.1).isSome || false)) then .err else .go (b.1, b.2 ++ [f])) else .err
noncomputable def pseudo (l : List Fld) (known : List Bs) : Option (List Fld) := match foldT (pseudoStep known) (false, []) l with
  | .go b => some b.2
  | _ => none

theorem lookup_none_any : ∀ {l : List Fld} {k : Bs}, ((l.map fun f => (f.1, D.bytes f.2)).lookup k).isSome = false → (l.map fun f => (f.1, D.bytes f.2)).any (fun kv => kv.1 = k) = false
  | [], k, _ => rfl
  | f :: r, k, h => by
    rw [List.map_cons, List.lookup_cons] at h
    cases q : k == f.1 with
    | true => rw [q] at h; cases h
    | false =>
      rw [q] at h
      rw [List.map_cons, List.any_cons, lookup_none_any h, Bool.or_false]
      simp only [decide_eq_false_iff_not]
      intro e; rw [e] at q; simp at q
theorem storedD_new {l : List Fld} {f : Fld} (h : ((l.map fun f => (f.1, D.bytes f.2)).lookup f.1).isSome = false) : storedD (l.map fun f => (f.1, D.bytes f.2)) f.1 (.bytes f.2) = (l ++ [f]).map fun f => (f.1, D.bytes f.2) := by
  unfold storedD
  rw [lookup_none_any h]
  simp

theorem pseudo_len {known : List Bs} : ∀ {l : List Fld} {b b' : Bool × List Fld}, foldT (pseudoStep known) b l = .go b' → b'.2.length ≤ b.2.length + l.length
  | [], b, b', h => by cases h; simp
  | f :: r, b, b', h => by
    rw [foldT] at h
    cases q : pseudoStep known b f with
    | err => rw [q] at h; cases h
    | ret d ω => rw [q] at h; cases h
    | go b₁ =>
      rw [q] at h
      have ih := pseudo_len h
      have : b₁.2.length ≤ b.2.length + 1 := by
        unfold pseudoStep at q
        split at q
        · split at q
          · cases q; simp
          · split at q
            · cases q
            · cases q; simp
        · cases q
      simp only [List.length_cons]; omega

noncomputable def TnE {β : Type} (o' : β → Out Fin) : Tn β → Out Fin
  | .go b => o' b
  | .err => .err
  | .ret d ω => .ok (.ret d ω)
theorem foldT_noret {α β : Type} {step : β → α → Tn β} (h : ∀ b x d ω, step b x ≠ .ret d ω) : ∀ (xs : List α) (b : β) (d : D) (ω : Own), foldT step b xs ≠ .ret d ω
  | [], b, d, ω, q => by cases q
  | x :: r, b, d, ω, q => by
    rw [foldT] at q
    cases e : step b x with
    | go b' => rw [e] at q; exact foldT_noret h r b' d ω q
    | err => rw [e] at q; cases q
    | ret d' ω' => exact h _ _ _ _ e
theorem Exs.loop {β : Type} {st : Stmt} {rest : List Stmt} {o : Tn β} {sg : β → Sg} {o' : β → Out Fin} (h : Ex c a σ st (TnO sg o)) (h2 : ∀ b, o = .go b → Exs c a (sg b) rest (o' b)) : Exs c a σ (st :: rest) (TnE o' o) := by
  cases o with
  | go b => exact .cons h (h2 b rfl)
  | err => exact .err h
  | ret d ω => exact .ret h

/-- a call that gives None or raises, ahead of a row -/
theorem Exs.callB {e : Expr} {pos : Pos} {rest : List Stmt} {b : Bool} {o : Out Fin} (h : Ev c a σ e ((boolOut b).with σ.own)) (h2 : b = true → Exs c a σ rest o) (hi : interactive a.env = false := by rfl) (hs : swapsWith e none pos.line a.env = pure false := by rfl) : Exs c a σ (.Expr e pos :: rest) (if b then o else .err) := by
  cases b with
  | true => exact .cons (.expr (d := .none) (ω := σ.own) h rfl hi hs) (h2 rfl)
  | false => exact .err (.exprErr h hi hs)
theorem ev_fn1 {x : PySem.Str} {p pos : Pos} {e : Expr} {es : List Expr} {f : D} {ds : List D} {o : Out (D × Own)} (hf : Callee f) (h1 : Ev c a σ (.Name x p) (.ok (f, σ.own))) (h2 : EvAll c a σ pos (e :: es) (.ok (ds, σ.own)))
    (h3 : CallOk c a σ f ds o)
    (he : starEach (e :: es) a.env = (false, eval e a.env) :: starEach es a.env := by rfl) (hplain : (backTo pos (starEach es a.env)).any (·.1) = false := by rfl) : Ev c a σ (.Call (.Name x p) (e :: es) [] pos) o := .call hf h1 h2 h3 he hplain

@[reducible] noncomputable def psSt (l : List Fld) (known : List Bs) (p : Addr) (b : Bool × List Fld) : Sg := ⟨[("fields", fldsD l), ("known", .tup (known.map .bytes)), ("found", .adr p), ("is_behind", .bool b.1)], [(p, dctD b.2)]⟩
set_option maxHeartbeats 1000000 in
theorem ok_pseudo (R : Real c) (l : List Fld) (known : List Bs) (hz : Sm l) (hn : 6 ≤ a.n) : CallOk c a σ (.fn (fd c 84)) [fldsD l, .tup (known.map .bytes)] ((outO dctD (pseudo l known)).with σ.own) := by
  refine call_pure (fn_pseudo_fields R) (n := 5) (r := outO dctD (pseudo l known)) rfl hn fun A m L fa F g0 s0 hm => ?_
  refine .ofR (ω := []) (Exs.assignTupN (.tuple (.here .dict fun p => by exact EvAll.cons (Ev.bool _ _ _) EvAll.nil) (fun _ => by simp)) (σ' := fun p => ⟨[("found", .adr p), ("is_behind", .bool false), ("fields", fldsD l), ("known", .tup (known.map .bytes))], [(p, .dct [])]⟩) (fun p => .inr ⟨["found", "is_behind"], rfl, rfl, .bind (.inl rfl) (.bind (.inl rfl) .nil)⟩) fun p => ?_) (by simp)
  refine .cast (.loop (Ex.forT (psSt l known p) fldD (pseudoStep known) (fun b f => [("value", .bytes f.2), ("name", .bytes f.1), ("fields", fldsD l), ("known", .tup (known.map .bytes)), ("found", .adr p), ("is_behind", .bool b.1)])
      (fun b r => b.2.length + r.length ≤ 100 ∧ ∀ f ∈ r, f.1.length ≤ 50 ∧ f.2.length ≤ 50) l (false, []) (.name rfl) (.lst _) ⟨rfl, rfl, rfl, rfl, trivial⟩ ?_ ?_ (fun b f r ζ _ => .pair (.inl rfl) (.inl rfl)) ?_) (o' := fun b => .ok (.ret (dctD b.2) [])) fun b q => ?_) ?_
  · exact ⟨by have := hz.len; simp; omega, fun f hf => ⟨hz.name f hf, hz.val f hf⟩⟩
  · rintro b f r b' ⟨h1, h2⟩ q
    have := pseudo_len (l := [f]) (b := b) (b' := b') (by rw [foldT, q]; rfl)
    simp only [List.length_cons, List.length_nil] at this h1
    exact ⟨by omega, fun x hx => h2 x (.tail _ hx)⟩
  · rintro b f r ζ ⟨h1, h2⟩
    obtain ⟨h3, h4⟩ := h2 f (.head _)
    refine .cast (Exs.callB (b := okField f.1 f.2) (o := TnZ (psSt l known p) ζ (if cutOf f.1 none (some 1) != [58] then .go (true, b.2) else if b.1 || (!known.contains f.1 || (((b.2.map fun f => (f.1, D.bytes f.2)).lookup f.1).isSome || false)) then .err else .go (b.1, b.2 ++ [f]))) (ev_fn1 (f := .fn (fd c 67)) trivial (.fn R rfl rfl rfl (by decide)) (by exact EvAll.cons (Ev.name rfl) (EvAll.cons (Ev.name rfl) EvAll.nil)) (ok_check_field R f.1 f.2 (by omega) (by omega) (by show 5 ≤ m; omega))) fun _ => .one ?_) ?_
    · cases q1 : cutOf f.1 none (some 1) != [58] with
      | true =>
        refine .ifT (.cast (by exact Tr.cmp (Ev.slice2 (Ev.name rfl) Part.none (Part.lit _ _ _) (CutOk.bytes _ _ _ (by first | assumption | decide | omega | (dsimp only; omega) | (simp; done) | (simp; omega) | (simp only [actOf, compAct]; omega)) (fun _ => (fun _ => (fun _ => rfl))))) (Ev.bytes _ _ _) (Bin.ne (EqD.bytes _ _))) q1) (.forget (.cons (.assign (by exact Ev.bool _ _ _) (.inl rfl)) .nil) ⟨rfl, rfl, rfl, rfl, trivial⟩)
      | false =>
        refine .ifF (.cast (by exact Tr.cmp (Ev.slice2 (Ev.name rfl) Part.none (Part.lit _ _ _) (CutOk.bytes _ _ _ (by first | assumption | decide | omega | (dsimp only; omega) | (simp; done) | (simp; omega) | (simp only [actOf, compAct]; omega)) (fun _ => (fun _ => (fun _ => rfl))))) (Ev.bytes _ _ _) (Bin.ne (EqD.bytes _ _))) q1) (.one ?_)
        cases q2 : b.1 || (!known.contains f.1 || (((b.2.map fun f => (f.1, D.bytes f.2)).lookup f.1).isSome || false)) with
        | true =>
          refine .ifT (.cast (by exact Tr.bool (TrL.or (Tr.plain (Ev.name rfl)) (fun _ => (TrL.or (Tr.cmp (Ev.name rfl) (Ev.name rfl) (Bin.notInTupB _ _)) (fun _ => (TrL.or (Tr.cmp (Ev.name rfl) (Ev.name rfl) (Bin.inOwnDct _ _ _ lookup_here)) (fun _ => TrL.orN))))))) q2) (.malformed R (by decide +kernel) (by show 3 ≤ m; omega) rfl)
        | false =>
          refine .ifF (.cast (by exact Tr.bool (TrL.or (Tr.plain (Ev.name rfl)) (fun _ => (TrL.or (Tr.cmp (Ev.name rfl) (Ev.name rfl) (Bin.notInTupB _ _)) (fun _ => (TrL.or (Tr.cmp (Ev.name rfl) (Ev.name rfl) (Bin.inOwnDct _ _ _ lookup_here)) (fun _ => TrL.orN))))))) q2) (.one ?_)
          have q3 : ((b.2.map fun f => (f.1, D.bytes f.2)).lookup f.1).isSome = false := by
            cases q4 : ((b.2.map fun f => (f.1, D.bytes f.2)).lookup f.1).isSome with
            | false => rfl
            | true => rw [q4] at q2; simp at q2
          refine .cast (.forget (.setDct (l := b.2.map fun f => (f.1, D.bytes f.2)) (.name rfl) (.name rfl) (.name rfl) lookup_here (by simp; omega)) (l' := (psSt l known p b).loc) ⟨rfl, rfl, rfl, rfl, trivial⟩) ?_
          rw [show setOwn ((psSt l known p b).own ++ ζ) p (.dct (storedD (b.2.map fun f => (f.1, D.bytes f.2)) f.1 (.bytes f.2))) = (psSt l known p (b.1, b.2 ++ [f])).own ++ ζ from by rw [storedD_new q3]; exact setOwn_here]
          rfl
    · unfold pseudoStep; cases okField f.1 f.2 <;> rfl
  · exact .ret (.cast (.retFreeze (d := dctD b.2) (.name rfl) lookup_here (by simp) .dct) (by rw [delOwn_here]))
  · unfold pseudo outO
    cases q : foldT (pseudoStep known) (false, []) l with
    | go b => rfl
    | err => rfl
    | ret d ω => exact (foldT_noret (fun b f d ω q => by unfold pseudoStep at q; split at q <;> first | (split at q <;> first | (split at q <;> cases q) | cases q) | cases q) _ _ _ _ q).elim
end


section
open PySem PySem.W PySem.Calls PyProof.Rows PySem.SeqAt
variable {c : Cx} {a : Act} {g : Heap} {s : Shared} {σ : Sg}

theorem Ex.exprAny {e : Expr} {pos : Pos} {d : D} {ω : Own} (h : Ev c a σ e (.ok (d, ω)))
    (hi : interactive a.env = false := by rfl) (hs : swapsWith e none pos.line a.env = pure false := by rfl) : Ex c a σ (.Expr e pos) (.ok (.next ⟨σ.loc, ω⟩)) := .mk fun g s H => by
  refine wpAny_Expr_any (h.then H (fun v s₁ g₁ k₁ H₁ r₁ => ?_)) hi hs
  exact ⟨_, rfl, g₁, k₁, H₁⟩

noncomputable def allO {α β : Type} (el : α → Option β) : List α → Option (List β)
  | [] => some []
  | x :: r => match el x with
    | none => none
    | some y => match allO el r with
      | none => none
      | some ys => some (y :: ys)
noncomputable def outL {β : Type} (f : β → D) : Option (List β) → Out (List D × Own)
  | some l => .ok (l.map f, [])
  | none => .err
theorem CTurns.opt {α β : Type} {b : Act} {lc : List (PySem.Str × D)} {target : Expr} {elt : Expr} (f : α → D) (l₁ : α → List (PySem.Str × D)) (el : α → Option β) (fd : β → D) : ∀ (xs : List α),
    (∀ x ∈ xs, ∀ ζ, As c b ⟨lc, ζ⟩ target (f x) ⟨l₁ x, ζ⟩) → (∀ x ∈ xs, ∀ y e, lc.lookup y = some e → (l₁ x).lookup y = some e) → (∀ x ∈ xs, ∀ ζ, Ev c b ⟨l₁ x, ζ⟩ elt ((outO fd (el x)).with ζ)) →
    CTurns c b lc target [] elt [] (xs.map f) (outL fd (allO el xs))
  | [], _, _, _ => .nil
  | x :: xs, h1, h2, h4 => by
    have ih := CTurns.opt (elt := elt) f l₁ el fd xs (fun y hy => h1 y (.tail _ hy)) (fun y hy => h2 y (.tail _ hy)) (fun y hy => h4 y (.tail _ hy))
    have h4' := h4 x (.head _)
    unfold allO
    cases q : el x with
    | none => rw [q] at h4'; exact .err (ω := []) (ω₁ := []) (h1 x (.head _)) (h2 x (.head _)) (fun ζ => .nil) h4'
    | some y =>
      rw [q] at h4'
      cases q2 : allO el xs with
      | none => rw [q2] at ih; exact .later (ω := []) (ω₁ := []) (ω₂ := []) (h1 x (.head _)) (h2 x (.head _)) (fun ζ => .nil) h4' ih
      | some ys => rw [q2] at ih; exact .take (ω := []) (ω₁ := []) (ω₂ := []) (h1 x (.head _)) (h2 x (.head _)) (fun ζ => .nil) h4' ih

noncomputable def nCL : Bs := [99, 111, 110, 116, 101, 110, 116, 45, 108, 101, 110, 103, 116, 104]
noncomputable def optD : Option Int → D
  | none => .none
  | some n => .int n
noncomputable def lensOf (l : List Fld) : Option (List Int) := allO num (valuesOf l nCL)
noncomputable def firstOf (ns : List Int) : Option (Option Int) := match ns with
  | [] => some none
  | n :: r => if (n :: r).any (fun x => !(x == n)) then none else some (some n)
noncomputable def lenOf (l : List Fld) : Option (Option Int) := match lensOf l with
  | none => none
  | some ns => firstOf ns
theorem valuesOf_small {l : List Fld} (hz : Sm l) (n : Bs) : (valuesOf l n).length ≤ 50 ∧ ∀ v ∈ valuesOf l n, v.length ≤ 50 := by
  unfold valuesOf
  constructor
  · rw [List.length_map]; exact Nat.le_trans (List.length_filter_le _ _) hz.len
  · intro v hv
    obtain ⟨f, hf, rfl⟩ := List.mem_map.mp hv
    exact hz.val f (List.mem_filter.mp hf).1
theorem allO_len {α β : Type} {el : α → Option β} : ∀ {xs : List α} {ys : List β}, allO el xs = some ys → ys.length = xs.length
  | [], ys, h => by cases h; rfl
  | x :: r, ys, h => by
    unfold allO at h
    cases q : el x with
    | none => rw [q] at h; cases h
    | some y =>
      rw [q] at h
      cases q2 : allO el r with
      | none => rw [q2] at h; cases h
      | some ys' => rw [q2] at h; cases h; simp [allO_len q2]

noncomputable def bindO {α β : Type} (o : Option α) (r : α → Out β) : Out β := match o with
  | some x => r x
  | none => .err
theorem Exs.compO {β : Type} {x : PySem.Str} {pos' : Pos} {elt target iter : Expr} {ifs : List Expr} {scope : Scope} {pos spos : Pos} {cl : List (PySem.Str × Addr)} {lc : List (PySem.Str × D)} {d : D} {ds : List D} {rest : List Stmt} {r : List β → Out D} {ω' : Own} {o : Option (List β)} {fd : β → D}
    (h : Ev c a σ iter (.ok (d, σ.own))) (hit : Iterable c d ds) (cg : Caught a σ.loc scope cl lc) (hz : ds.length ≤ 1000)
    (t : ∀ C g0 s0, CTurns c (compAct a scope cl C g0 s0 []) lc target ifs elt [] ds (outL fd o)) (hx : Stores a x) (h2 : ∀ ys, o = some ys → Exs c a ⟨(x, .lst (ys.map fd)) :: σ.loc, σ.own⟩ rest (RetO (r ys) ω'))
    (hsw : swapsWith (.ListComp elt [⟨target, iter, ifs, 0⟩] scope pos) (some (.Name x pos')) spos.line a.env = pure true := by rfl)
    (hs : ∀ x, foldedSetIterable iter a.env x = pure x := by intro _; rfl) : Exs c a σ (.Assign [.Name x pos'] (.ListComp elt [⟨target, iter, ifs, 0⟩] scope pos) spos :: rest) (RetO (bindO o r) ω') := .mk fun g s H => by
  have hc : Ex c a σ (.Assign [.Name x pos'] (.ListComp elt [⟨target, iter, ifs, 0⟩] scope pos) spos) (match outL fd o with | .ok (es, _) => .ok (.next ⟨(x, .lst es) :: σ.loc, σ.own⟩) | .err => .err) := .mk fun g s H =>
    (Ex.assignComp h hit cg (ωi := []) (fun p hp => by cases hp) (by simp) hz t (fun p hp => .inl ⟨hp, by simp⟩) H.own.apart hx hsw hs).run g s H
  cases o with
  | none => exact (Exs.err hc).run g s H
  | some ys => exact (Exs.cons hc (h2 ys rfl)).run g s H
theorem Ev.compO {β : Type} {elt target iter : Expr} {ifs : List Expr} {scope : Scope} {pos : Pos} {cl : List (PySem.Str × Addr)} {lc : List (PySem.Str × D)} {d : D} {ds : List D} {o : Option (List β)} {fd : β → D}
    (h : Ev c a σ iter (.ok (d, σ.own))) (hit : Iterable c d ds) (cg : Caught a σ.loc scope cl lc) (hz : ds.length ≤ 1000)
    (t : ∀ C g0 s0, CTurns c (compAct a scope cl C g0 s0 []) lc target ifs elt [] ds (outL fd o))
    (hs : ∀ x, foldedSetIterable iter a.env x = pure x := by intro _; rfl) : Ev c a σ (.ListComp elt [⟨target, iter, ifs, 0⟩] scope pos) ((outO (fun ys => .lst (ys.map fd)) o).with σ.own) := by
  have := Ev.compP (pos := pos) h hit cg hz t hs
  cases o <;> exact this
theorem Exs.assignO {α : Type} {x : PySem.Str} {pos' pos : Pos} {e : Expr} {rest : List Stmt} {r : α → Out D} {ω' : Own} {o : Option α} {fd : α → D} (h : Ev c a σ e ((outO fd o).with σ.own)) (hx : Stores a x) (h2 : ∀ v, o = some v → Exs c a ⟨(x, fd v) :: σ.loc, σ.own⟩ rest (RetO (r v) ω'))
    (hs : swapsWith e (some (.Name x pos')) pos.line a.env = pure false := by rfl) : Exs c a σ (.Assign [.Name x pos'] e pos :: rest) (RetO (bindO o r) ω') := by
  cases o with
  | none => exact .err (.assignErr h hs)
  | some v => exact .cons (.assign (d := fd v) (ω := σ.own) h hx hs) (h2 v rfl)
theorem Exs.exprO {α : Type} {pos : Pos} {e : Expr} {rest : List Stmt} {r : α → Out D} {ω' : Own} {o : Option α} {fd : α → D} (h : Ev c a σ e ((outO fd o).with σ.own)) (h2 : ∀ v, o = some v → Exs c a σ rest (RetO (r v) ω'))
    (hi : interactive a.env = false := by rfl) (hs : swapsWith e none pos.line a.env = pure false := by rfl) : Exs c a σ (.Expr e pos :: rest) (RetO (bindO o r) ω') := by
  cases o with
  | none => exact .err (.exprErr h hi hs)
  | some v => exact .cons (.exprAny (d := fd v) (ω := σ.own) h hi hs) (h2 v rfl)
theorem Exs.retO {α : Type} {pos : Pos} {e : Expr} {rest : List Stmt} {o : Option α} {fd : α → D} (h : Ev c a σ e ((outO fd o).with σ.own)) : Exs c a σ (.Return (some e) pos :: rest) (RetO (outO fd o) σ.own) := by
  cases o with
  | none => exact .err (.retErr h)
  | some v => exact .ret (.ret (d := fd v) (ω := σ.own) h)
theorem Exs.asgn {x : PySem.Str} {pos' pos : Pos} {e : Expr} {rest : List Stmt} {d : D} {o : Out Fin} (h : Ev c a σ e (.ok (d, σ.own))) (hx : Stores a x) (h2 : Exs c a ⟨(x, d) :: σ.loc, σ.own⟩ rest o)
    (hs : swapsWith e (some (.Name x pos')) pos.line a.env = pure false := by rfl) : Exs c a σ (.Assign [.Name x pos'] e pos :: rest) o := .cons (.assign h hx hs) h2
theorem Body.asgn {x : PySem.Str} {pos' pos : Pos} {e : Expr} {rest : List Stmt} {d : D} {o : Out D} {ω' : Own} (h : Ev c a σ e (.ok (d, σ.own))) (hx : Stores a x) (h2 : Body c a ⟨(x, d) :: σ.loc, σ.own⟩ rest o ω')
    (hs : swapsWith e (some (.Name x pos')) pos.line a.env = pure false := by rfl) : Body c a σ (.Assign [.Name x pos'] e pos :: rest) o ω' := .step (.assign h hx hs) h2
theorem Exs.rcast {ss : List Stmt} {r r' : Out D} {ω ω' : Own} (h : Exs c a σ ss (RetO r ω)) (q : r = r') (q' : ω = ω' := by rfl) : Exs c a σ ss (RetO r' ω') := by subst q q'; exact h

theorem CTurns.ints {b : Act} {lc : List (PySem.Str × D)} {x : PySem.Str} {p : Pos} {ifs : List Expr} {elt : Expr} (P : Int → Bool) (el : Int → D) (l : List Int) (hx : Stores b x) (nx : lc.lookup x = none)
    (hT : ∀ f ∈ l, ∀ ζ, Tst c b ⟨(x, .int f) :: lc, ζ⟩ ifs (.ok (P f, ζ))) (hE : ∀ f ∈ l, P f = true → ∀ ζ, Ev c b ⟨(x, .int f) :: lc, ζ⟩ elt (.ok (el f, ζ))) :
    CTurns c b lc (.Name x p) ifs elt [] (l.map .int) (.ok ((l.filter P).map el, [])) :=
  .over .int (fun f => (x, .int f) :: lc) P el l (fun f _ ζ => .name hx) (fun f _ z e h => by
    rw [List.lookup_cons]
    cases q : z == x with
    | true => rw [eq_of_beq q, nx] at h; cases h
    | false => exact h) hT hE
theorem CTurns.byts {b : Act} {lc : List (PySem.Str × D)} {x : PySem.Str} {p : Pos} {ifs : List Expr} {elt : Expr} (P : Bs → Bool) (el : Bs → D) (l : List Bs) (hx : Stores b x) (nx : lc.lookup x = none)
    (hT : ∀ f ∈ l, ∀ ζ, Tst c b ⟨(x, .bytes f) :: lc, ζ⟩ ifs (.ok (P f, ζ))) (hE : ∀ f ∈ l, P f = true → ∀ ζ, Ev c b ⟨(x, .bytes f) :: lc, ζ⟩ elt (.ok (el f, ζ))) :
    CTurns c b lc (.Name x p) ifs elt [] (l.map .bytes) (.ok ((l.filter P).map el, [])) :=
  .over .bytes (fun f => (x, .bytes f) :: lc) P el l (fun f _ ζ => .name hx) (fun f _ z e h => by
    rw [List.lookup_cons]
    cases q : z == x with
    | true => rw [eq_of_beq q, nx] at h; cases h
    | false => exact h) hT hE

theorem Ev.callFn {ad : Addr} {x : PySem.Str} {p pos : Pos} {e : Expr} {es : List Expr} {ds : List D} {o : Out (D × Own)} {cls : Value} {dd : Option Addr} {sl : Array (Option Value)} (R : Real c) (h : EvAll c a σ pos (e :: es) (.ok (ds, σ.own))) (h3 : CallOk c a σ (.fn (fd c ad)) ds o) (hx : a.env.kindOf x = some .globalImplicit)
    (hm : nsIn (K c) mainGlobals x = some (some (.ref ad)) := by rfl) (hl : (K c).lookup ad = some ⟨cls, dd, .func (fd c ad), sl⟩ := by rfl) (hd : (x == ("__debug__" : PySem.Str)) = false := by decide)
    (he : starEach (e :: es) a.env = (false, eval e a.env) :: starEach es a.env := by rfl) (hplain : (backTo pos (starEach es a.env)).any (·.1) = false := by rfl) : Ev c a σ (.Call (.Name x p) (e :: es) [] pos) o :=
  ev_fn1 (f := .fn (fd c ad)) trivial (.fn R hm hl hx hd) h h3 he hplain
theorem Ev.values {p pos : Pos} {e : Expr} {es : List Expr} {l : List Fld} {n : Bs} (R : Real c) (h : EvAll c a σ pos (e :: es) (.ok ([fldsD l, .bytes n], σ.own))) (hz : l.length ≤ 1000) (hn : 1 ≤ a.n) (hx : a.env.kindOf "values_of" = some .globalImplicit)
    (he : starEach (e :: es) a.env = (false, eval e a.env) :: starEach es a.env := by rfl) (hplain : (backTo pos (starEach es a.env)).any (·.1) = false := by rfl) : Ev c a σ (.Call (.Name "values_of" p) (e :: es) [] pos) (.ok (valsD (valuesOf l n), σ.own)) :=
  .callFn R h (ok_values R l n hz hn) hx rfl rfl (by decide) he hplain

set_option maxHeartbeats 4000000 in
theorem ok_length (R : Real c) (l : List Fld) (hz : Sm l) (hn : 5 ≤ a.n) : CallOk c a σ (.fn (fd c 124)) [fldsD l] ((outO optD (lenOf l)).with σ.own) := by
  refine call_pure (fn_content_length R) (n := 4) (r := outO optD (lenOf l)) rfl hn fun A m L fa F g0 s0 hm => ?_
  have hv := valuesOf_small hz nCL
  have hl := hz.len
  refine .cast (.ofR (ω := []) (.assignO (o := lensOf l) (fd := fun ns => .lst (ns.map .int)) (r := fun ns => outO optD (firstOf ns)) (.compO (lc := []) (cl := []) (d := valsD (valuesOf l nCL)) (by exact Ev.values (by assumption) (EvAll.cons (Ev.name rfl) (EvAll.cons (Ev.bytes _ _ _) EvAll.nil)) (by first | assumption | decide | omega | (dsimp only; omega) | (simp; done) | (simp; omega) | (simp only [actOf, compAct]; omega)) (by first | assumption | decide | omega | (dsimp only; omega) | (simp; done) | (simp; omega) | (simp only [actOf, compAct]; omega)) rfl) (.lst _) (.none rfl rfl rfl rfl) (by simp; omega) (fun C g0 s0 => .opt .bytes (fun v => [("value", .bytes v)]) num .int (valuesOf l nCL) (fun v _ ζ => .name (.inl rfl)) (fun v _ y e h => by cases h) (fun v h ζ => ?_))) (.inr ⟨rfl, rfl, _, rfl⟩) fun ns q => ?_) (by simp)) ?_
  · exact ev_fn1 (f := .fn (fd c 72)) trivial (.fn R rfl rfl rfl (by decide)) (by exact EvAll.cons (Ev.name rfl) EvAll.nil) (ok_digits R v (by have := hv.2 v h; omega) (by show 4 ≤ m; omega))
  · have hlen := allO_len q
    have hw : (valuesOf l nCL).length ≤ 50 := hv.1
    cases ns with
    | nil =>
      refine .rcast (.guard (b := false) (r := .ok .none) (.neNil (l := []) (.compV (ωo := []) (ds := []) (.name rfl) (.lst []) (.of [("numbers", _, _)] rfl ⟨rfl, rfl, .inl rfl, .inl rfl, trivial⟩ rfl rfl rfl) (by simp) (fun C g0 s0 => .nil))) (fun q => by cases q) fun _ => ?_) rfl
      refine .retE (.ifF (ω := []) (.cast (by exact Tr.cmp (Ev.len2 (by assumption) (EvAll.cons (Ev.name rfl) EvAll.nil) (LenOk.lst _ (by first | assumption | decide | omega | (dsimp only; omega) | (simp; done) | (simp; omega) | (simp only [actOf, compAct]; omega))) rfl) (Ev.int _ _ _) (Bin.gt _ _)) rfl) (.none _ _))
    | cons n r =>
      have hr : r.length ≤ 50 := by simp only [List.length_cons] at hlen; omega
      refine .rcast (.guard (b := (n :: r).any (fun x => !(x == n))) (r := .ok (.int n)) (.cast (.neNil (.compV (ωo := []) (.name rfl) (.lst _) (.of [("numbers", _, _)] rfl ⟨rfl, rfl, .inl rfl, .inl rfl, trivial⟩ rfl rfl rfl) (by simp at hlen ⊢; omega) (fun C g0 s0 => .ints (fun x => !(x == n)) .int (n :: r) (.inl rfl) rfl (fun f _ ζ => .one ?_) fun f _ _ ζ => ?_))) ?_) (fun q => .malformed R (by decide +kernel) (by show 3 ≤ m; omega) rfl) fun _ => ?_) ?_
      · exact Tr.cmp (Ev.name rfl) (Ev.sub (Ev.name rfl) (Ev.int _ _ _) (Sub.lst (by first | assumption | decide | omega | (dsimp only; omega) | (simp; done) | (simp; omega) | (simp only [actOf, compAct]; omega)) (by first | assumption | decide | omega | (dsimp only; omega) | (simp; done) | (simp; omega) | (simp only [actOf, compAct]; omega)) rfl)) (Bin.ne (EqD.int _ _))
      · exact Ev.name rfl
      · rw [filter_some]
      · refine .retE (.ifT (ω := []) (.cast (by exact Tr.cmp (Ev.len2 (by assumption) (EvAll.cons (Ev.name rfl) EvAll.nil) (LenOk.lst _ (by first | assumption | decide | omega | (dsimp only; omega) | (simp; done) | (simp; omega) | (simp only [actOf, compAct]; omega))) rfl) (Ev.int _ _ _) (Bin.gt _ _)) ?_) (by exact Ev.sub (Ev.name rfl) (Ev.int _ _ _) (Sub.lst (by first | assumption | decide | omega | (dsimp only; omega) | (simp; done) | (simp; omega) | (simp only [actOf, compAct]; omega)) (by first | assumption | decide | omega | (dsimp only; omega) | (simp; done) | (simp; omega) | (simp only [actOf, compAct]; omega)) rfl)))
        simp
      · show _ = outO optD (if (n :: r).any (fun x => !(x == n)) then none else some (some n))
        cases (n :: r).any (fun x => !(x == n)) <;> rfl
  · unfold lenOf; cases lensOf l <;> rfl
end


section
open PySem PySem.W PySem.Calls PyProof.Rows PySem.SeqAt
variable {c : Cx} {a : Act} {g : Heap} {s : Shared} {σ : Sg}

noncomputable def nHost : Bs := [104, 111, 115, 116]
noncomputable def nAuth : Bs := [58, 97, 117, 116, 104, 111, 114, 105, 116, 121]
noncomputable def nMethod : Bs := [58, 109, 101, 116, 104, 111, 100]
noncomputable def nScheme : Bs := [58, 115, 99, 104, 101, 109, 101]
noncomputable def nPath : Bs := [58, 112, 97, 116, 104]
noncomputable def nStatus : Bs := [58, 115, 116, 97, 116, 117, 115]

theorem dlook (t : List Fld) (k : Bs) : (t.map fun f => (f.1, D.bytes f.2)).lookup k = (t.lookup k).map D.bytes := by
  induction t with
  | nil => rfl
  | cons f r ih =>
    obtain ⟨x, y⟩ := f
    rw [List.map_cons, List.lookup_cons, List.lookup_cons]
    cases k == x
    · exact ih
    · rfl

noncomputable def namedOf (t l : List Fld) : List Bs := (match t.lookup nAuth with | some v => [v] | none => []) ++ valuesOf l nHost
noncomputable def badNamed (named hosts : List Bs) : Bool := match named with
  | [] => true
  | x :: r => decide ((1 : Int) < hosts.length) || (!(x == (x :: r).getLast (by simp)) || (((x.length : Int) == 0) || false))
noncomputable def badAuth (t l : List Fld) : Bool := badNamed (namedOf t l) (valuesOf l nHost)

theorem last_get {α : Type} (x : α) (r : List α) : (x :: r)[(x :: r).length - 1]? = some ((x :: r).getLast (by simp)) := by
  rw [← List.getLast?_eq_getElem?, List.getLast?_eq_some_getLast (by simp)]

theorem lookup_fld {k v : Bs} : ∀ {l : List Fld}, l.lookup k = some v → (k, v) ∈ l
  | [], h => by cases h
  | (x, y) :: r, h => by
    rw [List.lookup_cons] at h
    cases q : k == x with
    | true => rw [q] at h; cases h; rw [eq_of_beq q]; exact .head _
    | false => rw [q] at h; exact .tail _ (lookup_fld h)
theorem Bin.cast {t : Value → Value → Sem Value} {x y z z' : D} (h : Bin c a σ t x y z) (q : z = z') : Bin c a σ t x y z' := q ▸ h
theorem namedOf_small {t l : List Fld} (ht : Sm t) (hz : Sm l) : (namedOf t l).length ≤ 100 ∧ ∀ v ∈ namedOf t l, v.length ≤ 50 := by
  have hv := valuesOf_small hz nHost
  have hh := hv.1
  unfold namedOf
  cases q : t.lookup nAuth with
  | none => exact ⟨by simp; omega, fun v h => hv.2 v (by simpa using h)⟩
  | some x =>
    refine ⟨by simp; omega, fun v h => ?_⟩
    rcases List.mem_append.mp h with h | h
    · rw [List.mem_singleton.mp h]; exact ht.val _ (lookup_fld q)
    · exact hv.2 v h

set_option maxHeartbeats 4000000 in
theorem ok_auth (R : Real c) (t l : List Fld) (hz : Sm l) (ht : Sm t) (hn : 5 ≤ a.n) : CallOk c a σ (.fn (fd c 91)) [dctD t, fldsD l] ((boolOut (!badAuth t l)).with σ.own) := by
  refine call_pure (fn_check_authority R) (n := 4) (r := boolOut (!badAuth t l)) rfl hn fun A m L fa F g0 s0 hm => ?_
  have hv := valuesOf_small hz nHost
  have hl := hz.len
  have hh := hv.1
  obtain ⟨hm1, hm2⟩ := namedOf_small ht hz
  refine .asgn (d := valsD (valuesOf l nHost)) (by exact Ev.values (by assumption) (EvAll.cons (Ev.name rfl) (EvAll.cons (Ev.bytes _ _ _) EvAll.nil)) (by first | assumption | decide | omega | (dsimp only; omega) | (simp; done) | (simp; omega) | (simp only [actOf, compAct]; omega)) (by first | assumption | decide | omega | (dsimp only; omega) | (simp; done) | (simp; omega) | (simp only [actOf, compAct]; omega)) rfl) (.inl rfl) ?_
  refine .asgn (d := valsD (namedOf t l)) ?_ (.inl rfl) ?_
  · have hq := dlook t nAuth
    unfold namedOf valsD
    cases q : t.lookup nAuth with
    | none =>
      rw [q] at hq
      exact .bin (x := .lst []) (y := .lst ((valuesOf l nHost).map .bytes)) (.ifF (ω := []) (.cast (by exact Tr.cmp (Ev.bytes _ _ _) (Ev.name rfl) (Bin.inDct _ _)) (congrArg Option.isSome hq)) (by exact Ev.list EvAll.nil)) (.name rfl) (.cast (.addList (by simp; omega)) rfl)
    | some v =>
      rw [q] at hq
      exact .bin (x := .lst [.bytes v]) (y := .lst ((valuesOf l nHost).map .bytes)) (.ifT (ω := []) (.cast (by exact Tr.cmp (Ev.bytes _ _ _) (Ev.name rfl) (Bin.inDct _ _)) (congrArg Option.isSome hq)) (.list (.cons (.sub (.name rfl) (.bytes _ _ _) (.dct hq)) .nil) (by simp))) (.name rfl) (.cast (.addList (by simp; omega)) rfl)
  · unfold badAuth
    cases q : namedOf t l with
    | nil => exact .stop (.ifB (b := true) (.bool (.stop (ω := []) (.cast (by exact Tr.cmp (Ev.len2 (by assumption) (EvAll.cons (Ev.name rfl) EvAll.nil) (LenOk.lst _ (by first | assumption | decide | omega | (dsimp only; omega) | (simp; done) | (simp; omega) | (simp only [actOf, compAct]; omega))) rfl) (Ev.int _ _ _) (Bin.eq (EqD.int _ _))) rfl) (.inr ⟨rfl, rfl⟩))) fun _ => .malformed R (by decide +kernel) (by show 3 ≤ m; omega) rfl)
    | cons x r =>
      rw [q] at hm1 hm2
      have h1 := hm2 x (.head _)
      have h2 : r.length ≤ 100 := by simp only [List.length_cons] at hm1; omega
      refine .cast (.guard (b := badNamed (x :: r) (valuesOf l nHost)) (b' := true) (d := .none) (.ifB (.cast (b := (((x :: r).map D.bytes).length : Int) == 0 || badNamed (x :: r) (valuesOf l nHost)) (.bool (.or (by exact Tr.cmp (Ev.len2 (by assumption) (EvAll.cons (Ev.name rfl) EvAll.nil) (LenOk.lst _ (by first | assumption | decide | omega | (dsimp only; omega) | (simp; done) | (simp; omega) | (simp only [actOf, compAct]; omega))) rfl) (Ev.int _ _ _) (Bin.eq (EqD.int _ _))) fun _ => .or (.cast (by exact Tr.cmp (Ev.len2 (by assumption) (EvAll.cons (Ev.name rfl) EvAll.nil) (LenOk.lst _ (by first | assumption | decide | omega | (dsimp only; omega) | (simp; done) | (simp; omega) | (simp only [actOf, compAct]; omega))) rfl) (Ev.int _ _ _) (Bin.gt _ _)) ?_) fun _ => .or (.cmp (x := .bytes x) (y := .bytes ((x :: r).getLast (by simp))) (by exact Ev.sub (Ev.name rfl) (Ev.int _ _ _) (Sub.lst (by first | assumption | decide | omega | (dsimp only; omega) | (simp; done) | (simp; omega) | (simp only [actOf, compAct]; omega)) (by first | assumption | decide | omega | (dsimp only; omega) | (simp; done) | (simp; omega) | (simp only [actOf, compAct]; omega)) rfl)) (.sub (.name rfl) (.negLit 1 _ _ _) (.lstNeg ?_)) (by exact Bin.ne (EqD.bytes _ _))) fun _ => .or (by exact Tr.cmp (Ev.len2 (by assumption) (EvAll.cons (Ev.sub (Ev.name rfl) (Ev.int _ _ _) (Sub.lst (by first | assumption | decide | omega | (dsimp only; omega) | (simp; done) | (simp; omega) | (simp only [actOf, compAct]; omega)) (by first | assumption | decide | omega | (dsimp only; omega) | (simp; done) | (simp; omega) | (simp only [actOf, compAct]; omega)) rfl)) EvAll.nil) (LenOk.bytes _ (by first | assumption | decide | omega | (dsimp only; omega) | (simp; done) | (simp; omega) | (simp only [actOf, compAct]; omega))) rfl) (Ev.int _ _ _) (Bin.eq (EqD.int _ _))) fun _ => .orN)) ?_) fun _ => .malformed R (by decide +kernel) (by show 3 ≤ m; omega) rfl) fun _ => .nil (by simp)) ?_
      · rw [List.length_map]
      · have := last_get x r
        rw [List.getElem?_map, List.length_map, this]; rfl
      · have : ((((x :: r).map D.bytes).length : Int) == 0) = false := by simp; omega
        rw [this, Bool.false_or]
      · unfold boolOut; rw [Bool.and_true]

noncomputable def bHttp : Bs := [104, 116, 116, 112]
noncomputable def bHttps : Bs := [104, 116, 116, 112, 115]
noncomputable def bConnect : Bs := [67, 79, 78, 78, 69, 67, 84]
noncomputable def bOptions : Bs := [79, 80, 84, 73, 79, 78, 83]
noncomputable def optB {α : Type} (b : Bool) (o : Option α) : Option α := if b then none else o
noncomputable def reqRest (t l : List Fld) (m s p : Bs) : Option (List Fld) :=
  if [bHttp, bHttps].contains s then optB (badAuth t l) (optB (!(cutOf p none (some 1) == [47]) && (!((p == [42]) && ((m == bOptions) && true)) && true)) ((lenOf l).map fun _ => t))
  else (lenOf l).map fun _ => t
noncomputable def reqThen (t l : List Fld) (m : Bs) : Option (List Fld) := match t.lookup nScheme with
  | none => none
  | some s => match t.lookup nPath with
    | none => none
    | some p => reqRest t l m s p
noncomputable def badTunnel (t : List Fld) : Bool := (t.lookup nScheme).isSome || ((t.lookup nPath).isSome || ((t.lookup nAuth).getD []).isEmpty)
noncomputable def reqWith (t l : List Fld) (m : Bs) : Option (List Fld) := if m.isEmpty then none else if m == bConnect then optB (badTunnel t) (some t) else reqThen t l m
noncomputable def reqOf (t l : List Fld) : Option (List Fld) := match t.lookup nMethod with
  | none => none
  | some m => reqWith t l m
noncomputable def checkReq (l : List Fld) : Option (List Fld) := match pseudo l reqNames with
  | none => none
  | some t => reqOf t l

theorem foldT_sm {known : List Bs} {l₀ : List Fld} (P : Fld → Prop) : ∀ {l : List Fld} {b b' : Bool × List Fld}, foldT (pseudoStep known) b l = .go b' → (∀ f ∈ l, P f) → (∀ f ∈ b.2, P f) → ∀ f ∈ b'.2, P f
  | [], b, b', h, hl, hb => by cases h; exact hb
  | f :: r, b, b', h, hl, hb => by
    rw [foldT] at h
    cases q : pseudoStep known b f with
    | err => rw [q] at h; cases h
    | ret d ω => rw [q] at h; cases h
    | go b₁ =>
      rw [q] at h
      refine foldT_sm (l₀ := l₀) P h (fun f hf => hl f (.tail _ hf)) ?_
      unfold pseudoStep at q
      split at q
      · split at q
        · cases q; exact hb
        · split at q
          · cases q
          · cases q
            intro x hx
            rcases List.mem_append.mp hx with hx | hx
            · exact hb x hx
            · rw [List.mem_singleton.mp hx]; exact hl f (.head _)
      · cases q
theorem pseudo_sm {l t : List Fld} {known : List Bs} (hz : Sm l) (h : pseudo l known = some t) : Sm t := by
  unfold pseudo at h
  cases q : foldT (pseudoStep known) (false, []) l with
  | err => rw [q] at h; cases h
  | ret d ω => rw [q] at h; cases h
  | go b =>
    rw [q] at h; cases h
    have hl := hz.len
    refine ⟨by have := pseudo_len q; simp at this; omega, foldT_sm (l₀ := l) (fun f => f.1.length ≤ 50) q hz.name (by simp), foldT_sm (l₀ := l) (fun f => f.2.length ≤ 50) q hz.val (by simp)⟩
end


section
open PySem PySem.W PySem.Calls PyProof.Rows PySem.SeqAt
variable {c : Cx} {a : Act} {g : Heap} {s : Shared} {σ : Sg}

theorem len0 (b : Bs) : ((b.length : Int) == 0) = b.isEmpty := by cases b <;> simp; omega
theorem lk_some {t : List Fld} {k v : Bs} (h : t.lookup k = some v) : (t.map fun f => (f.1, D.bytes f.2)).lookup k = some (.bytes v) := by rw [dlook, h]; rfl
theorem lk_none {t : List Fld} {k : Bs} (h : t.lookup k = none) : (t.map fun f => (f.1, D.bytes f.2)).lookup k = none := by rw [dlook, h]; rfl
theorem outO_map {α : Type} (o : Option α) (f : α → D) (t : List Fld) : bindO o (fun _ => Out.ok (dctD t)) = outO dctD (o.map fun _ => t) := by cases o <;> rfl
theorem boolIf {α : Type} (b : Bool) (o : Out α) : (if (!b) then o else .err) = if b then .err else o := by cases b <;> rfl

theorem dsome (t : List Fld) (k : Bs) : ((t.map fun f => (f.1, D.bytes f.2)).lookup k).isSome = (t.lookup k).isSome := by rw [dlook]; cases t.lookup k <;> rfl
theorem Exs.ifNext {test : Expr} {body rest : List Stmt} {pos : Pos} {σ' : Sg} {o : Out Fin} (h : Tr c a σ test (.ok (true, σ.own))) (hT : Exs c a σ body (.ok (.next σ'))) (h2 : Exs c a σ' rest o) : Exs c a σ (.If test body [] pos :: rest) o := .cons (.ifT (σ := σ) (ω := σ.own) h hT) h2
theorem Exs.ifErr {test : Expr} {body rest : List Stmt} {pos : Pos} (h : Tr c a σ test (.ok (true, σ.own))) (hT : Exs c a σ body .err) : Exs c a σ (.If test body [] pos :: rest) .err := .err (.ifT (σ := σ) (ω := σ.own) h hT)
theorem Exs.ifSkip {test : Expr} {body rest : List Stmt} {pos : Pos} {o : Out Fin} (h : Tr c a σ test (.ok (false, σ.own))) (h2 : Exs c a σ rest o) : Exs c a σ (.If test body [] pos :: rest) o := .cons (.ifF (σ := σ) (ω := σ.own) h .nil) h2
/-- the end of check_request -/
theorem req_end {a : Act} {loc : List (PySem.Str × D)} {p1 p2 p3 p4 p5 p6 : Pos} (R : Real c) (t l : List Fld) (hz : Sm l) (hn : 5 ≤ a.n) (h1 : loc.lookup ("fields" : PySem.Str) = some (fldsD l)) (h2 : loc.lookup ("told" : PySem.Str) = some (dctD t)) (hx : a.env.kindOf "content_length" = some .globalImplicit) (hi : interactive a.env = false)
    (hs : swapsWith (.Call (.Name "content_length" p1) [.Name "fields" p2] [] p3) none p4.line a.env = pure false) (he : starEach [.Name "fields" p2] a.env = (false, eval (.Name "fields" p2) a.env) :: starEach [] a.env) :
    Exs c a ⟨loc, []⟩ [.Expr (.Call (.Name "content_length" p1) [.Name "fields" p2] [] p3) p4, .Return (some (.Name "told" p5)) p6] (RetO (outO dctD ((lenOf l).map fun _ => t)) []) := by
  refine .rcast (.exprO (σ := ⟨loc, []⟩) (o := lenOf l) (fd := optD) (r := fun _ => .ok (dctD t)) (.callFn R (.cons (.name h1) .nil) (ok_length R l hz hn) hx) (fun _ _ => .retE (.name h2)) hi hs) (outO_map _ (fun _ => .none) t)

set_option maxHeartbeats 4000000 in
theorem ok_request (R : Real c) (l : List Fld) (hz : Sm l) (hn : 7 ≤ a.n) : CallOk c a σ (.fn (fd c 98)) [fldsD l] ((outO dctD (checkReq l)).with σ.own) := by
  refine call_pure (fn_check_request R) (n := 6) (r := outO dctD (checkReq l)) rfl hn fun A m L fa F g0 s0 hm => ?_
  refine .cast (.ofR (ω := []) (.assignO (o := pseudo l reqNames) (fd := dctD) (r := fun t => outO dctD (reqOf t l)) (.callFn R (by exact EvAll.cons (Ev.name rfl) (EvAll.cons (ev_req (by assumption) rfl) EvAll.nil)) (ok_pseudo R l reqNames hz (by show 6 ≤ m; omega)) rfl) (.inl rfl) fun t ht => ?_) (by simp)) ?_
  · have hts := pseudo_sm hz ht
    have h5 : 5 ≤ (actOf (fd c 98) A m L fa F g0 s0 []).n := by show 5 ≤ m; omega
    unfold reqOf
    cases q1 : t.lookup nMethod with
    | none => exact .rcast (.guard (b := true) (r := .err) (.bool (.stop (ω := []) (.cast (by exact Tr.cmp (Ev.bytes _ _ _) (Ev.name rfl) (Bin.notInDct _ _)) (congrArg (fun o => !o.isSome) (lk_none q1))) (.inr ⟨rfl, rfl⟩))) (fun _ => .malformed R (by decide +kernel) (by show 3 ≤ m; omega) rfl) fun q => by cases q) rfl
    | some x =>
      have k1 := lk_some q1
      have z1 : x.length ≤ 50 := hts.val _ (lookup_fld q1)
      refine .rcast (.guard (b := x.isEmpty) (.cast (b := !((t.map fun f => (f.1, D.bytes f.2)).lookup nMethod).isSome || (((x.length : Int) == 0) || false)) (by exact Tr.bool (TrL.or (Tr.cmp (Ev.bytes _ _ _) (Ev.name rfl) (Bin.notInDct _ _)) (fun _ => (TrL.or (Tr.cmp (Ev.len2 (by assumption) (EvAll.cons (Ev.sub (Ev.name rfl) (Ev.bytes _ _ _) (Sub.dct (by assumption))) EvAll.nil) (LenOk.bytes _ (by first | assumption | decide | omega | (dsimp only; omega) | (simp; done) | (simp; omega) | (simp only [actOf, compAct]; omega))) rfl) (Ev.int _ _ _) (Bin.eq (EqD.int _ _))) (fun _ => TrL.orN))))) (by rw [k1, len0]; simp)) (fun _ => .malformed R (by decide +kernel) (by show 3 ≤ m; omega) rfl) fun _ => .ifR (ω' := []) (b := x == bConnect) (r1 := outO dctD (optB (badTunnel t) (some t))) (r2 := outO dctD (reqThen t l x)) (by exact Tr.cmp (Ev.sub (Ev.name rfl) (Ev.bytes _ _ _) (Sub.dct (by assumption))) (Ev.bytes _ _ _) (Bin.eq (EqD.bytes _ _))) (fun _ => ?_) (fun _ => ?_)) ?_
      · have z2 : ((t.lookup nAuth).getD []).length ≤ 50 := by
          cases q : t.lookup nAuth with
          | none => simp
          | some v => exact hts.val _ (lookup_fld q)
        have k2 : (((t.map fun f => (f.1, D.bytes f.2)).lookup nAuth).getD (.bytes [])) = .bytes ((t.lookup nAuth).getD []) := by rw [dlook]; cases t.lookup nAuth <;> rfl
        refine .rcast (.guard (r := .ok (dctD t)) (.cast (.bool (.or (by exact Tr.cmp (Ev.bytes _ _ _) (Ev.name rfl) (Bin.inDct _ _)) fun _ => .or (by exact Tr.cmp (Ev.bytes _ _ _) (Ev.name rfl) (Bin.inDct _ _)) fun _ => .or (.cmp (.len2 R (.cons (.cast (by exact Ev.get2 (Ev.name rfl) (EvAll.cons (Ev.bytes _ _ _) (EvAll.cons (Ev.bytes _ _ _) EvAll.nil))) k2) .nil) (.bytes _ (by omega)) rfl) (by exact Ev.int _ _ _) (by exact Bin.eq (EqD.int _ _))) fun _ => .orN)) rfl) (fun _ => .malformed R (by decide +kernel) (by show 3 ≤ m; omega) rfl) fun _ => .retE (.name rfl)) ?_
        rw [dsome, dsome, len0, Bool.or_false]
        show (if badTunnel t then Out.err else Out.ok (dctD t)) = _
        unfold optB; cases badTunnel t <;> rfl
      · unfold reqThen
        cases q2 : t.lookup nScheme with
        | none => exact .ifErr (.bool (.stop (ω := []) (.cast (by exact Tr.cmp (Ev.bytes _ _ _) (Ev.name rfl) (Bin.notInDct _ _)) (congrArg (fun o => !o.isSome) (lk_none q2))) (.inr ⟨rfl, rfl⟩))) (.malformed R (by decide +kernel) (by show 3 ≤ m; omega) rfl)
        | some sc =>
          have k2 := lk_some q2
          have t2 : (!((t.map fun f => (f.1, D.bytes f.2)).lookup nScheme).isSome) = false := by rw [k2]; rfl
          cases q3 : t.lookup nPath with
          | none =>
            have t3 : (!((t.map fun f => (f.1, D.bytes f.2)).lookup nPath).isSome) = true := by rw [lk_none q3]; rfl
            exact .ifErr (.bool (.go (ω := []) (.cast (by exact Tr.cmp (Ev.bytes _ _ _) (Ev.name rfl) (Bin.notInDct _ _)) t2) (.inr ⟨rfl, rfl⟩) (.stop (ω := []) (.cast (by exact Tr.cmp (Ev.bytes _ _ _) (Ev.name rfl) (Bin.notInDct _ _)) t3) (.inr ⟨rfl, rfl⟩)))) (.malformed R (by decide +kernel) (by show 3 ≤ m; omega) rfl)
          | some pt =>
            have k3 := lk_some q3
            have z3 : pt.length ≤ 50 := hts.val _ (lookup_fld q3)
            have t3 : (!((t.map fun f => (f.1, D.bytes f.2)).lookup nPath).isSome) = false := by rw [k3]; rfl
            refine .ifSkip (.bool (.go (ω := []) (.cast (by exact Tr.cmp (Ev.bytes _ _ _) (Ev.name rfl) (Bin.notInDct _ _)) t2) (.inr ⟨rfl, rfl⟩) (.go (ω := []) (.cast (by exact Tr.cmp (Ev.bytes _ _ _) (Ev.name rfl) (Bin.notInDct _ _)) t3) (.inr ⟨rfl, rfl⟩) .orN))) ?_
            show Exs _ _ _ _ (RetO (outO dctD (reqRest t l x sc pt)) [])
            unfold reqRest
            cases q4 : [bHttp, bHttps].contains sc with
            | false => exact .ifSkip (.cast (by exact Tr.cmp (Ev.sub (Ev.name rfl) (Ev.bytes _ _ _) (Sub.dct (by assumption))) (Ev.tuple (EvAll.cons (Ev.bytes _ _ _) (EvAll.cons (Ev.bytes _ _ _) EvAll.nil))) (Bin.inTupBc _ _)) q4) (req_end R t l hz h5 rfl rfl rfl rfl rfl rfl)
            | true =>
              cases q5 : badAuth t l with
              | true =>
                have ha := ok_auth (a := actOf (fd c 98) A m L fa F g0 s0 []) (σ := ⟨[("told", dctD t), ("fields", fldsD l)], []⟩) R t l hz hts (by show 5 ≤ m; omega)
                rw [q5] at ha
                exact .ifErr (.cast (by exact Tr.cmp (Ev.sub (Ev.name rfl) (Ev.bytes _ _ _) (Sub.dct (by assumption))) (Ev.tuple (EvAll.cons (Ev.bytes _ _ _) (EvAll.cons (Ev.bytes _ _ _) EvAll.nil))) (Bin.inTupBc _ _)) q4) (.err (.exprErr (.callFn R (by exact EvAll.cons (Ev.name rfl) (EvAll.cons (Ev.name rfl) EvAll.nil)) ha rfl)))
              | false =>
                have ha := ok_auth (a := actOf (fd c 98) A m L fa F g0 s0 []) (σ := ⟨[("told", dctD t), ("fields", fldsD l)], []⟩) R t l hz hts (by show 5 ≤ m; omega)
                rw [q5] at ha
                cases q6 : (!(cutOf pt none (some 1) == [47]) && (!((pt == [42]) && ((x == bOptions) && true)) && true)) with
                | true => exact .ifErr (.cast (by exact Tr.cmp (Ev.sub (Ev.name rfl) (Ev.bytes _ _ _) (Sub.dct (by assumption))) (Ev.tuple (EvAll.cons (Ev.bytes _ _ _) (EvAll.cons (Ev.bytes _ _ _) EvAll.nil))) (Bin.inTupBc _ _)) q4) (.cons (.exprAny (d := .none) (ω := []) (.callFn R (by exact EvAll.cons (Ev.name rfl) (EvAll.cons (Ev.name rfl) EvAll.nil)) ha rfl)) (.asgn (d := .bytes pt) (by exact Ev.sub (Ev.name rfl) (Ev.bytes _ _ _) (Sub.dct (by assumption))) (.inl rfl) (.ifErr (.cast (by exact Tr.bool (TrL.and (Tr.cmp (Ev.slice2 (Ev.name rfl) Part.none (Part.lit _ _ _) (CutOk.bytes _ _ _ (by first | assumption | decide | omega | (dsimp only; omega) | (simp; done) | (simp; omega) | (simp only [actOf, compAct]; omega)) (fun _ => (fun _ => (fun _ => rfl))))) (Ev.bytes _ _ _) (Bin.ne (EqD.bytes _ _))) (fun _ => (TrL.and (Tr.not (Tr.bool (TrL.and (Tr.cmp (Ev.name rfl) (Ev.bytes _ _ _) (Bin.eq (EqD.bytes _ _))) (fun _ => (TrL.and (Tr.cmp (Ev.sub (Ev.name rfl) (Ev.bytes _ _ _) (Sub.dct (by assumption))) (Ev.bytes _ _ _) (Bin.eq (EqD.bytes _ _))) (fun _ => TrL.andN)))))) (fun _ => TrL.andN))))) q6) (.malformed R (by decide +kernel) (by show 3 ≤ m; omega) rfl))))
                | false => exact .ifNext (.cast (by exact Tr.cmp (Ev.sub (Ev.name rfl) (Ev.bytes _ _ _) (Sub.dct (by assumption))) (Ev.tuple (EvAll.cons (Ev.bytes _ _ _) (EvAll.cons (Ev.bytes _ _ _) EvAll.nil))) (Bin.inTupBc _ _)) q4) (.cons (.exprAny (d := .none) (ω := []) (.callFn R (by exact EvAll.cons (Ev.name rfl) (EvAll.cons (Ev.name rfl) EvAll.nil)) ha rfl)) (.asgn (d := .bytes pt) (by exact Ev.sub (Ev.name rfl) (Ev.bytes _ _ _) (Sub.dct (by assumption))) (.inl rfl) (.ifSkip (.cast (by exact Tr.bool (TrL.and (Tr.cmp (Ev.slice2 (Ev.name rfl) Part.none (Part.lit _ _ _) (CutOk.bytes _ _ _ (by first | assumption | decide | omega | (dsimp only; omega) | (simp; done) | (simp; omega) | (simp only [actOf, compAct]; omega)) (fun _ => (fun _ => (fun _ => rfl))))) (Ev.bytes _ _ _) (Bin.ne (EqD.bytes _ _))) (fun _ => (TrL.and (Tr.not (Tr.bool (TrL.and (Tr.cmp (Ev.name rfl) (Ev.bytes _ _ _) (Bin.eq (EqD.bytes _ _))) (fun _ => (TrL.and (Tr.cmp (Ev.sub (Ev.name rfl) (Ev.bytes _ _ _) (Sub.dct (by assumption))) (Ev.bytes _ _ _) (Bin.eq (EqD.bytes _ _))) (fun _ => TrL.andN)))))) (fun _ => TrL.andN))))) q6) .nil))) (req_end R t l hz h5 rfl rfl rfl rfl rfl rfl)
      · show _ = outO dctD (reqWith t l x)
        unfold reqWith; cases x.isEmpty <;> cases x == bConnect <;> rfl
  · unfold checkReq; cases pseudo l reqNames <;> rfl
end


section
open PySem PySem.W PySem.Calls PyProof.Rows PySem.SeqAt
variable {c : Cx} {a : Act} {g : Heap} {s : Shared} {σ : Sg}

noncomputable def statusOf (t : List Fld) : Bs := (t.lookup nStatus).getD []
noncomputable def answerWith (l : List Fld) (st : Bs) : Option Int := if !((st.length : Int) == 3) then none else match num st with
  | none => none
  | some n => if decide (n < 100) then none else (lenOf l).map fun _ => n
noncomputable def checkAns (l : List Fld) : Option Int := match pseudo l [nStatus] with
  | none => none
  | some t => answerWith l (statusOf t)

set_option maxHeartbeats 4000000 in
theorem ok_answer (R : Real c) (l : List Fld) (hz : Sm l) (hn : 7 ≤ a.n) : CallOk c a σ (.fn (fd c 105)) [fldsD l] ((outO .int (checkAns l)).with σ.own) := by
  refine call_pure (fn_check_answer R) (n := 6) (r := outO .int (checkAns l)) rfl hn fun A m L fa F g0 s0 hm => ?_
  refine .cast (.ofR (ω := []) (.assignO (o := pseudo l [nStatus]) (fd := dctD) (r := fun t => outO .int (answerWith l (statusOf t))) (.callFn R (by exact EvAll.cons (Ev.name rfl) (EvAll.cons (Ev.tuple (EvAll.cons (Ev.bytes _ _ _) EvAll.nil)) EvAll.nil)) (ok_pseudo R l [nStatus] hz (by show 6 ≤ m; omega)) rfl) (.inl rfl) fun t ht => ?_) (by simp)) ?_
  · have hts := pseudo_sm hz ht
    have h4 : 4 ≤ (actOf (fd c 105) A m L fa F g0 s0 []).n := by show 4 ≤ m; omega
    have h5 : 5 ≤ (actOf (fd c 105) A m L fa F g0 s0 []).n := by show 5 ≤ m; omega
    have z2 : (statusOf t).length ≤ 50 := by
      unfold statusOf
      cases q : t.lookup nStatus with
      | none => simp
      | some v => exact hts.val _ (lookup_fld q)
    have k2 : (((t.map fun f => (f.1, D.bytes f.2)).lookup nStatus).getD (.bytes [])) = .bytes (statusOf t) := by unfold statusOf; rw [dlook]; cases t.lookup nStatus <;> rfl
    refine .asgn (d := .bytes (statusOf t)) (.cast (by exact Ev.get2 (Ev.name rfl) (EvAll.cons (Ev.bytes _ _ _) (EvAll.cons (Ev.bytes _ _ _) EvAll.nil))) k2) (.inl rfl) ?_
    generalize hst : statusOf t = st at *
    unfold answerWith
    cases q1 : !((st.length : Int) == 3) with
    | true => exact .ifErr (.bool (.stop (ω := []) (.cast (by exact Tr.cmp (Ev.len2 (by assumption) (EvAll.cons (Ev.name rfl) EvAll.nil) (LenOk.bytes _ (by first | assumption | decide | omega | (dsimp only; omega) | (simp; done) | (simp; omega) | (simp only [actOf, compAct]; omega))) rfl) (Ev.int _ _ _) (Bin.ne (EqD.int _ _))) q1) (.inr ⟨rfl, rfl⟩))) (.malformed R (by decide +kernel) (by show 3 ≤ m; omega) rfl)
    | false =>
      have hd := fun σ => ok_digits (a := actOf (fd c 105) A m L fa F g0 s0 []) (σ := σ) R st (by omega) h4
      cases q2 : num st with
      | none =>
        rw [q2] at hd
        exact .err (Ex.ifErr (.bool (.go (ω := []) (.cast (by exact Tr.cmp (Ev.len2 (by assumption) (EvAll.cons (Ev.name rfl) EvAll.nil) (LenOk.bytes _ (by first | assumption | decide | omega | (dsimp only; omega) | (simp; done) | (simp; omega) | (simp only [actOf, compAct]; omega))) rfl) (Ev.int _ _ _) (Bin.ne (EqD.int _ _))) q1) (.inr ⟨rfl, rfl⟩) (.err (.cmpErr (.callFn R (by exact EvAll.cons (Ev.name rfl) EvAll.nil) (hd _) rfl))))))
      | some n =>
        rw [q2] at hd
        show Exs _ _ _ _ (RetO (outO .int (if decide (n < 100) then none else (lenOf l).map fun _ => n)) [])
        cases q3 : decide (n < 100) with
        | true => exact .ifErr (.bool (.go (ω := []) (.cast (by exact Tr.cmp (Ev.len2 (by assumption) (EvAll.cons (Ev.name rfl) EvAll.nil) (LenOk.bytes _ (by first | assumption | decide | omega | (dsimp only; omega) | (simp; done) | (simp; omega) | (simp only [actOf, compAct]; omega))) rfl) (Ev.int _ _ _) (Bin.ne (EqD.int _ _))) q1) (.inr ⟨rfl, rfl⟩) (.stop (ω := []) (.cast (.cmp (x := .int n) (.callFn R (by exact EvAll.cons (Ev.name rfl) EvAll.nil) (hd _) rfl) (by exact Ev.int _ _ _) (by exact Bin.lt _ _)) q3) (.inr ⟨rfl, rfl⟩)))) (.malformed R (by decide +kernel) (by show 3 ≤ m; omega) rfl)
        | false =>
          refine .ifSkip (.bool (.go (ω := []) (.cast (by exact Tr.cmp (Ev.len2 (by assumption) (EvAll.cons (Ev.name rfl) EvAll.nil) (LenOk.bytes _ (by first | assumption | decide | omega | (dsimp only; omega) | (simp; done) | (simp; omega) | (simp only [actOf, compAct]; omega))) rfl) (Ev.int _ _ _) (Bin.ne (EqD.int _ _))) q1) (.inr ⟨rfl, rfl⟩) (.go (ω := []) (.cast (.cmp (x := .int n) (.callFn R (by exact EvAll.cons (Ev.name rfl) EvAll.nil) (hd _) rfl) (by exact Ev.int _ _ _) (by exact Bin.lt _ _)) q3) (.inr ⟨rfl, rfl⟩) .orN))) ?_
          refine .rcast (.exprO (o := lenOf l) (fd := optD) (r := fun _ => .ok (.int n)) (.callFn R (by exact EvAll.cons (Ev.name rfl) EvAll.nil) (ok_length R l hz h5) rfl) fun _ _ => .retE (.callFn R (by exact EvAll.cons (Ev.name rfl) EvAll.nil) (hd _) rfl)) ?_
          cases lenOf l <;> rfl
  · unfold checkAns; cases pseudo l [nStatus] <;> rfl

theorem ok_trailer (R : Real c) (l : List Fld) (hz : Sm l) (hn : 7 ≤ a.n) : CallOk c a σ (.fn (fd c 112)) [fldsD l] ((boolOut (pseudo l []).isSome).with σ.own) := by
  refine call_pure (fn_check_trailer R) (n := 6) (r := boolOut (pseudo l []).isSome) rfl hn fun A m L fa F g0 s0 hm => ?_
  have ha := fun σ => ok_pseudo (a := actOf (fd c 112) A m L fa F g0 s0 []) (σ := σ) R l [] hz (by show 6 ≤ m; omega)
  cases q : pseudo l [] with
  | none => rw [q] at ha; exact .stop (.exprErr (.callFn R (by exact EvAll.cons (Ev.name rfl) (EvAll.cons (Ev.tuple EvAll.nil) EvAll.nil)) (ha _) rfl))
  | some t => rw [q] at ha; exact .step (.exprAny (d := dctD t) (ω := []) (.callFn R (by exact EvAll.cons (Ev.name rfl) (EvAll.cons (Ev.tuple EvAll.nil) EvAll.nil)) (ha _) rfl)) (.nil (by simp))

noncomputable def interim (st : Int) : Out D := if st == 101 then .err else .ok (.bool (decide (100 ≤ st) && decide (st < 200)))
theorem ok_interim (R : Real c) (st : Int) (hn : 4 ≤ a.n) : CallOk c a σ (.fn (fd c 119)) [.int st] ((interim st).with σ.own) := by
  refine call_pure (fn_is_interim R) (n := 3) (r := interim st) rfl hn fun A m L fa F g0 s0 hm => ?_
  exact .ofR (ω := []) (.guard (b := st == 101) (by exact Tr.cmp (Ev.name rfl) (Ev.int _ _ _) (Bin.eq (EqD.int _ _))) (fun _ => .malformed R (by decide +kernel) (by show 3 ≤ m; omega) rfl) fun _ => .retE (by exact Ev.chain (Ev.int _ _ _) (Ev.name rfl) (Ev.int _ _ _) (Bin.le _ _) (Bin.lt _ _))) (by simp)

noncomputable def bHead : Bs := [72, 69, 65, 68]
noncomputable def noBody (me : Bs) (st : Int) : Bool := (me == bHead) || (([204, 304] : List Int).contains st || ((me == bConnect) && (decide (200 ≤ st) && decide (st < 300))))
theorem ok_nobody (R : Real c) (me : Bs) (st : Int) (hn : 1 ≤ a.n) : CallOk c a σ (.fn (fd c 131)) [.bytes me, .int st] (.ok (.bool (noBody me st), σ.own)) := by
  refine call_pure (fn_has_no_body R) (n := 0) (r := .ok (.bool (noBody me st))) rfl hn fun A m L fa F g0 s0 hm => ?_
  exact .ofR (ω := []) (.retE (.cast (by exact Ev.bool_ (EvL.or (Ev.cmp (Ev.name rfl) (Ev.bytes _ _ _) (Bin.eq (EqD.bytes _ _))) (fun _ => (EvL.or (Ev.cmp (Ev.name rfl) (Ev.tuple (EvAll.cons (Ev.int _ _ _) (EvAll.cons (Ev.int _ _ _) EvAll.nil))) (Bin.inTupIc _ _)) (fun _ => (EvL.one (Ev.bool_ (EvL.and (Ev.cmp (Ev.name rfl) (Ev.bytes _ _ _) (Bin.eq (EqD.bytes _ _))) (fun _ => (EvL.one (Ev.chain (Ev.int _ _ _) (Ev.name rfl) (Ev.int _ _ _) (Bin.le _ _) (Bin.lt _ _)))))))))))) rfl)) (by simp)

noncomputable def badLen (told : Option Int) (size : Int) (bl : Bool) : Bool := match told with
  | none => false
  | some n => !(n == size) && (!(bl && ((size == 0) && true)) && true)
noncomputable def checkLen (l : List Fld) (size : Int) (bl : Bool) : Bool := match lenOf l with
  | none => false
  | some told => !badLen told size bl
theorem ok_checklen (R : Real c) (l : List Fld) (size : Int) (bl : Bool) (hz : Sm l) (hn : 6 ≤ a.n) : CallOk c a σ (.fn (fd c 138)) [fldsD l, .int size, .bool bl] ((boolOut (checkLen l size bl)).with σ.own) := by
  refine call_pure (fn_check_length R) (n := 5) (r := boolOut (checkLen l size bl)) rfl hn fun A m L fa F g0 s0 hm => ?_
  have ha := fun σ => ok_length (a := actOf (fd c 138) A m L fa F g0 s0 []) (σ := σ) R l hz (by show 5 ≤ m; omega)
  unfold checkLen
  cases q : lenOf l with
  | none => rw [q] at ha; exact .stop (.assignErr (.callFn R (by exact EvAll.cons (Ev.name rfl) EvAll.nil) (ha _) rfl))
  | some told =>
    rw [q] at ha
    refine .asgn (d := optD told) (.callFn R (by exact EvAll.cons (Ev.name rfl) EvAll.nil) (ha _) rfl) (.inl rfl) ?_
    refine .cast (.guard (b := badLen told size bl) (b' := true) (d := .none) (.ifB ?_ fun _ => .malformed R (by decide +kernel) (by show 3 ≤ m; omega) rfl) fun _ => .nil (by simp)) (by unfold boolOut; rw [Bool.and_true])
    cases told with
    | none => exact .bool (.stop (ω := []) (.cmp (x := .none) (.name rfl) (.none _ _) .isnotNN) (.inl ⟨rfl, rfl⟩))
    | some n => exact .bool (.go (ω := []) (.cmp (x := .int n) (.name rfl) (.none _ _) (.isnotIN n)) (.inl ⟨rfl, rfl⟩) (.and (.cmp (x := .int n) (.name rfl) (.name rfl) (by exact Bin.ne (EqD.int _ _))) fun _ => by exact TrL.and (Tr.not (Tr.bool (TrL.and (Tr.plain (Ev.name rfl)) (fun _ => (TrL.and (Tr.cmp (Ev.name rfl) (Ev.int _ _ _) (Bin.eq (EqD.int _ _))) (fun _ => TrL.andN)))))) (fun _ => TrL.andN)))
end


section
open PySem PySem.W PySem.Calls PyProof.Rows PySem.SeqAt
variable {c : Cx} {a : Act} {g : Heap} {s : Shared} {σ : Sg}

noncomputable def sizeOfF (f : Fld) : Int := f.1.length + f.2.length + 32
noncomputable def sizeOf (l : List Fld) : Int := (l.map sizeOfF).sum
theorem filter_true {α : Type} (l : List α) : l.filter (fun _ => true) = l := by simp
theorem Ev.sumL {ns : List Int} {e : Expr} {np pos : Pos} (R : Real c) (h : Ev c a σ e (.ok (.lst (ns.map .int), σ.own))) (hx : a.env.kindOf "sum" = some .globalImplicit)
    (hs : ∀ es, starEach (e :: es) a.env = (false, eval e a.env) :: starEach es a.env := by intro _; rfl)
    (he : starEach [e] a.env = (false, eval e a.env) :: starEach [] a.env := by rfl) (hplain : (backTo pos (starEach [] a.env)).any (·.1) = false := by rfl) : Ev c a σ (.Call (.Name "sum" np) [e] [] pos) (.ok (.int ns.sum, σ.own)) :=
  .call (f := .blt "sum") trivial (.built R rfl rfl (fun _ => .blt _) (by decide) hx (by decide)) (.cons h .nil hs) (.sum ns) he hplain
theorem ok_size (R : Real c) (l : List Fld) (hz : Sm l) (hn : 1 ≤ a.n) : CallOk c a σ (.fn (fd c 143)) [fldsD l] (.ok (.int (sizeOf l), σ.own)) := by
  refine call_pure (fn_section_size R) (n := 0) (r := .ok (.int (sizeOf l))) rfl hn fun A m L fa F g0 s0 hm => ?_
  have hl := hz.len
  refine .ofR (ω := []) (.retE (.sumL (ns := l.map sizeOfF) R (.cast (.compF (fun _ => true) (fun f => .int (sizeOfF f)) (.name rfl) (.none rfl rfl rfl rfl) (by omega) rfl rfl rfl rfl (fun C g0 s0 f _ ζ => .nil) (fun C g0 s0 f hf _ ζ => ?_)) ?_) rfl)) (by simp)
  · have h1 := hz.name f hf
    have h2 := hz.val f hf
    refine .cast (by exact Ev.bin (Ev.bin (Ev.len2 (by assumption) (EvAll.cons (Ev.name rfl) EvAll.nil) (LenOk.bytes _ (by first | assumption | decide | omega | (dsimp only; omega) | (simp; done) | (simp; omega) | (simp only [actOf, compAct]; omega))) rfl) (Ev.len2 (by assumption) (EvAll.cons (Ev.name rfl) EvAll.nil) (LenOk.bytes _ (by first | assumption | decide | omega | (dsimp only; omega) | (simp; done) | (simp; omega) | (simp only [actOf, compAct]; omega))) rfl) (Bin.add _ _)) (Ev.glob (Real.mg (by assumption) rfl) (fun _ => (fun _ => (Rd.int _ _))) rfl) (Bin.add _ _)) ?_
    rfl
  · rw [filter_true, List.map_map]; rfl

noncomputable def nCookie : Bs := [99, 111, 111, 107, 105, 101]
noncomputable def cookStep (vals : List Bs) (b : Bool × List Fld) (f : Fld) : Bool × List Fld := if !(f.1 == nCookie) then (b.1, b.2 ++ [f]) else if !b.1 then (true, b.2 ++ [(f.1, joinB [59, 32] vals)]) else b
noncomputable def cookOf (l : List Fld) : List Fld := (l.foldl (cookStep (valuesOf l nCookie)) (false, [])).2
@[reducible] noncomputable def ckSt (l : List Fld) (p : Addr) (b : Bool × List Fld) : Sg := ⟨[("fields", fldsD l), ("values", valsD (valuesOf l nCookie)), ("found", .adr p), ("is_there", .bool b.1)], [(p, fldsD b.2)]⟩
set_option maxHeartbeats 1000000 in
theorem ok_cook (R : Real c) (l : List Fld) (hz : Sm l) (hj : ∀ f ∈ l, f.1 = nCookie → JoinOk [59, 32] (valuesOf l nCookie)) (hn : 2 ≤ a.n) : CallOk c a σ (.fn (fd c 150)) [fldsD l] (.ok (fldsD (cookOf l), σ.own)) := by
  refine call_pure (fn_joined_cookies R) (n := 1) (r := .ok (fldsD (cookOf l))) rfl hn fun A m L fa F g0 s0 hm => ?_
  have hl := hz.len
  refine .ofR (ω := []) (Exs.assignTupN (.tuple (.there (by exact Ev.values (by assumption) (EvAll.cons (Ev.name rfl) (EvAll.cons (Ev.bytes _ _ _) EvAll.nil)) (by first | assumption | decide | omega | (dsimp only; omega) | (simp; done) | (simp; omega) | (simp only [actOf, compAct]; omega)) (by assumption) rfl) (.here (.list .nil) fun p => by exact EvAll.cons (Ev.bool _ _ _) EvAll.nil)) (fun _ => by simp)) (σ' := fun p => ⟨[("values", valsD (valuesOf l nCookie)), ("found", .adr p), ("is_there", .bool false), ("fields", fldsD l)], [(p, .lst [])]⟩) (fun p => .inr ⟨["values", "found", "is_there"], rfl, rfl, .bind (.inl rfl) (.bind (.inl rfl) (.bind (.inl rfl) .nil))⟩) fun p => ?_) (by simp)
  refine .cons (σ₁ := ckSt l p (l.foldl (cookStep (valuesOf l nCookie)) (false, []))) (.cast (Ex.forT (ckSt l p) fldD (fun b f => .go (cookStep (valuesOf l nCookie) b f)) (fun b f => [("value", .bytes f.2), ("name", .bytes f.1), ("fields", fldsD l), ("values", valsD (valuesOf l nCookie)), ("found", .adr p), ("is_there", .bool b.1)])
      (fun b r => b.2.length + r.length ≤ 100 ∧ ∀ f ∈ r, f ∈ l) l (false, []) (.name rfl) (.lst _) ⟨rfl, rfl, rfl, rfl, trivial⟩ ?_ ?_ (fun b f r ζ _ => .pair (.inl rfl) (.inl rfl)) ?_) (by rw [foldT_go]; rfl)) ?_
  · exact ⟨by simp; omega, fun f hf => hf⟩
  · rintro b f r b' ⟨h1, h2⟩ q
    cases q
    refine ⟨?_, fun x hx => h2 x (.tail _ hx)⟩
    unfold cookStep
    simp only [List.length_cons] at h1
    split
    · simp; omega
    · split
      · simp; omega
      · omega
  · rintro b f r ζ ⟨h1, h2⟩
    simp only [List.length_cons] at h1
    have hf := h2 f (.head _)
    have h3 := hz.name f hf
    have h4 := hz.val f hf
    have step : ∀ (n v : Bs) (t : Bool), setOwn ((ckSt l p b).own ++ ζ) p (.lst (b.2.map fldD ++ [.tup [.bytes n, .bytes v]])) = (ckSt l p (t, b.2 ++ [(n, v)])).own ++ ζ := fun n v t => by
      show setOwn ((p, fldsD b.2) :: ζ) p _ = (p, fldsD (b.2 ++ [(n, v)])) :: ζ
      rw [setOwn_here]; unfold fldsD; rw [List.map_append]; rfl
    unfold cookStep
    cases q1 : !(f.1 == nCookie) with
    | true =>
      refine .one (.ifT (.cast (by exact Tr.cmp (Ev.name rfl) (Ev.bytes _ _ _) (Bin.ne (EqD.bytes _ _))) q1) (.cast (.forget (.cons (.expr (d := .none) (.append (l := b.2.map fldD) (.name rfl) (by exact EvAll.cons (Ev.tuple (EvAll.cons (Ev.name rfl) (EvAll.cons (Ev.name rfl) EvAll.nil))) EvAll.nil) lookup_here lookup_here (by simp; omega)) rfl) .nil) (l' := (ckSt l p b).loc) ⟨rfl, rfl, rfl, rfl, trivial⟩) ?_))
      exact congrArg (fun w => Out.ok (Fin.next (Sg.mk (ckSt l p b).loc w))) (step f.1 f.2 b.1)
    | false =>
      have e1 : f.1 = nCookie := by simpa using q1
      refine .one (.ifF (.cast (by exact Tr.cmp (Ev.name rfl) (Ev.bytes _ _ _) (Bin.ne (EqD.bytes _ _))) q1) (.one ?_))
      cases q2 : !b.1 with
      | true =>
        refine .ifT (.cast (by exact Tr.not (Tr.plain (Ev.name rfl))) q2) (.cast (.forget (.cons (.assign (d := .bool true) (by exact Ev.bool _ _ _) (.inl rfl)) (.cons (.expr (d := .none) (.append (l := b.2.map fldD) (.name rfl) (.cons (.tuple (.cons (by exact Ev.name rfl) (.cons (.join (bs := valuesOf l nCookie) (by exact Ev.bytes _ _ _) (.cons (.name rfl) .nil) (hj f hf e1)) .nil)) (by simp)) .nil) lookup_here lookup_here (by simp; omega)) rfl) .nil)) (l' := (ckSt l p (true, b.2)).loc) ⟨rfl, rfl, rfl, rfl, trivial⟩) ?_)
        exact congrArg (fun w => Out.ok (Fin.next (Sg.mk (ckSt l p (true, b.2)).loc w))) (step f.1 (joinB [59, 32] (valuesOf l nCookie)) true)
      | false =>
        exact .ifF (.cast (by exact Tr.not (Tr.plain (Ev.name rfl))) q2) (.forget .nil ⟨rfl, rfl, rfl, rfl, trivial⟩)
  · exact .ret (.cast (.retFreeze (d := fldsD (cookOf l)) (.name rfl) lookup_here (by simp) .lst) (by rw [delOwn_here]))
end


section
open PySem PySem.W PySem.Calls PyProof.Rows PySem.SeqAt
variable {c : Cx} {a : Act} {g : Heap} {s : Shared} {σ : Sg}

/-- the box of the draws -/
structure Bx where
  ns : List Int
  k : Nat
  sd : Int
noncomputable def bxD (b : Bx) : D := .bx [.lst (b.ns.map .int), .int b.k, .int b.sd]
structure Bx.Ok (b : Bx) : Prop where
  len : b.ns.length ≤ 100
  k : b.k ≤ b.ns.length
  lo : 0 ≤ b.sd
  hi : b.sd < 4294967296
noncomputable def takeV (b : Bx) (many : Int) : Int × Bx :=
  if b.k < b.ns.length then ((b.ns.getD b.k 0).fmod many, ⟨b.ns, b.k + 1, (b.sd * 69069 + (b.ns.getD b.k 0).fmod 1000003 + 1).fmod 4294967296⟩)
  else ((((b.sd * 69069 + 12345).fmod 4294967296).fdiv 4096).fmod many, ⟨b.ns, b.k, (b.sd * 69069 + 12345).fmod 4294967296⟩)
theorem fmod_in (x n : Int) (h : 0 < n) : 0 ≤ x.fmod n ∧ x.fmod n < n := ⟨Int.fmod_nonneg_of_pos _ h, Int.fmod_lt_of_pos _ h⟩
theorem take_ok {b : Bx} (h : b.Ok) {many : Int} (hm : 0 < many) : (takeV b many).2.Ok ∧ 0 ≤ (takeV b many).1 ∧ (takeV b many).1 < many := by
  unfold takeV
  split
  · exact ⟨⟨h.len, by dsimp only; omega, (fmod_in _ _ (by decide)).1, (fmod_in _ _ (by decide)).2⟩, fmod_in _ _ hm⟩
  · exact ⟨⟨h.len, h.k, (fmod_in _ _ (by decide)).1, (fmod_in _ _ (by decide)).2⟩, fmod_in _ _ hm⟩

theorem Exs.setBx {oe ie value : Expr} {pos pos' : Pos} {p : Addr} {l : List D} {i : Int} {d : D} {r : Own} {rest : List Stmt} {o : Out Fin} (hown : σ.own = (p, .bx l) :: r) (hv : Ev c a σ value (.ok (d, σ.own))) (ho : Ev c a σ oe (.ok (.adr p, σ.own))) (hi : Ev c a σ ie (.ok (.int i, σ.own)))
    (h0 : 0 ≤ i) (h1 : i < 2 ^ 63) (hl : i < l.length) (h2 : Exs c a ⟨σ.loc, (p, .bx (l.set i.toNat d)) :: r⟩ rest o) (hs : swapsWith value (some (.Subscript oe ie pos')) pos.line a.env = pure false := by rfl) :
    Exs c a σ (.Assign [.Subscript oe ie pos'] value pos :: rest) o := by
  have := Ex.setBx (c := c) (a := a) (σ := σ) (pos := pos) (pos' := pos') hv ho hi (by rw [hown]; exact lookup_here) h0 h1 hl hs
  rw [hown, setOwn_here] at this
  exact .cons this h2
theorem noPylong (i : Int) : PySem.Builtin.divisionGoesByPylong i 4096 = false := by
  unfold PySem.Builtin.divisionGoesByPylong
  simp only
  rw [show (decide ((if (4096 : Int) == 0 then 0 else (4096 : Int).natAbs.log2 / 30 + 1) > 300)) = false from by decide +kernel]
  rfl
theorem mulOk_l {i : Int} (j : Int) (h0 : 0 ≤ i) (h : i < 4294967296) : IntMulOk i j := .of_left (by
  unfold Builtin.Int.intBits
  split
  · omega
  · have : i.natAbs.log2 < 32 := (Nat.log2_lt (by rename_i h'; simp at h'; omega)).mpr (by omega)
    omega)

set_option maxHeartbeats 1000000 in
theorem ok_take (R : Real c) (b : Bx) (hb : b.Ok) (many : Int) (hm0 : many ≠ 0) {p : Addr} (hp : σ.own.lookup p = some (bxD b)) (hn : 1 ≤ a.n) : CallOk c a σ (.fn (fd c 157)) [.adr p, .int many] (.ok (.int (takeV b many).1, setOwn σ.own p (bxD (takeV b many).2))) := by
  refine call_box (fn_law_take R) (n := 0) (r := .ok (.int (takeV b many).1)) (b0 := bxD b) (b1 := bxD (takeV b many).2) rfl hn hp fun A m L fa F g0 s0 hm => ?_
  have h1 := hb.len
  have h2 := hb.k
  refine Body.ofR (ω := [(p, bxD (takeV b many).2)]) ?_ (by simp)
  unfold takeV
  by_cases hk : b.k < b.ns.length
  · rw [if_pos hk]
    have hx : (b.ns.map D.int)[((b.k : Int) + 1 - 1).toNat]? = some (.int (b.ns.getD b.k 0)) := by
      rw [show ((b.k : Int) + 1 - 1).toNat = b.k from by omega, List.getElem?_map, List.getElem?_eq_getElem hk, List.getD_eq_getElem?_getD, List.getElem?_eq_getElem hk]; rfl
    generalize b.ns.getD b.k 0 = x at hx ⊢
    refine .ret (.ifT (ω := [(p, bxD b)]) (.cast (by exact Tr.cmp (Ev.sub (Ev.name rfl) (Ev.int _ _ _) (Sub.bx lookup_here (by first | assumption | decide | omega | (dsimp only; omega) | (simp; done) | (simp; omega) | (simp only [actOf, compAct]; omega)) (by first | assumption | decide | omega | (dsimp only; omega) | (simp; done) | (simp; omega) | (simp only [actOf, compAct]; omega)) rfl)) (Ev.len2 (by assumption) (EvAll.cons (Ev.sub (Ev.name rfl) (Ev.int _ _ _) (Sub.bx lookup_here (by first | assumption | decide | omega | (dsimp only; omega) | (simp; done) | (simp; omega) | (simp only [actOf, compAct]; omega)) (by first | assumption | decide | omega | (dsimp only; omega) | (simp; done) | (simp; omega) | (simp only [actOf, compAct]; omega)) rfl)) EvAll.nil) (LenOk.lst _ (by first | assumption | decide | omega | (dsimp only; omega) | (simp; done) | (simp; omega) | (simp only [actOf, compAct]; omega))) rfl) (Bin.lt _ _)) (by simp; omega)) (.setBx (p := p) (r := []) rfl (by exact Ev.bin (Ev.sub (Ev.name rfl) (Ev.int _ _ _) (Sub.bx lookup_here (by first | assumption | decide | omega | (dsimp only; omega) | (simp; done) | (simp; omega) | (simp only [actOf, compAct]; omega)) (by first | assumption | decide | omega | (dsimp only; omega) | (simp; done) | (simp; omega) | (simp only [actOf, compAct]; omega)) rfl)) (Ev.int _ _ _) (Bin.add _ _)) (.name rfl) (.int _ _ _) (by decide) (by decide) (by simp) (.asgn (d := .int x) (.sub (.sub (.name rfl) (.int _ _ _) (.bx lookup_here (by decide) (by decide) rfl)) (by exact Ev.bin (Ev.sub (Ev.name rfl) (Ev.int _ _ _) (Sub.bx lookup_here (by first | assumption | decide | omega | (dsimp only; omega) | (simp; done) | (simp; omega) | (simp only [actOf, compAct]; omega)) (by first | assumption | decide | omega | (dsimp only; omega) | (simp; done) | (simp; omega) | (simp only [actOf, compAct]; omega)) rfl)) (Ev.int _ _ _) (Bin.sub _ _)) (.lst (by omega) (by omega) hx)) (.inl rfl)
      (.setBx (p := p) (r := []) (d := .int ((b.sd * 69069 + x.fmod 1000003 + 1).fmod 4294967296)) rfl (.bin (.bin (.bin (.bin (by exact Ev.sub (Ev.name rfl) (Ev.int _ _ _) (Sub.bx lookup_here (by first | assumption | decide | omega | (dsimp only; omega) | (simp; done) | (simp; omega) | (simp only [actOf, compAct]; omega)) (by first | assumption | decide | omega | (dsimp only; omega) | (simp; done) | (simp; omega) | (simp only [actOf, compAct]; omega)) rfl)) (.int _ _ _) (.mul _ _ (mulOk_l _ hb.lo hb.hi))) (.bin (.name rfl) (.int _ _ _) (.mod _ _ (by decide))) (.add _ _)) (.int _ _ _) (.add _ _)) (.int _ _ _) (.mod _ _ (by decide))) (.name rfl) (.int _ _ _) (by decide) (by decide) (by simp)
      (.retE (.bin (.name rfl) (.name rfl) (.mod _ _ hm0)))))))
  · rw [if_neg hk]
    refine .ifSkip (.cast (by exact Tr.cmp (Ev.sub (Ev.name rfl) (Ev.int _ _ _) (Sub.bx lookup_here (by first | assumption | decide | omega | (dsimp only; omega) | (simp; done) | (simp; omega) | (simp only [actOf, compAct]; omega)) (by first | assumption | decide | omega | (dsimp only; omega) | (simp; done) | (simp; omega) | (simp only [actOf, compAct]; omega)) rfl)) (Ev.len2 (by assumption) (EvAll.cons (Ev.sub (Ev.name rfl) (Ev.int _ _ _) (Sub.bx lookup_here (by first | assumption | decide | omega | (dsimp only; omega) | (simp; done) | (simp; omega) | (simp only [actOf, compAct]; omega)) (by first | assumption | decide | omega | (dsimp only; omega) | (simp; done) | (simp; omega) | (simp only [actOf, compAct]; omega)) rfl)) EvAll.nil) (LenOk.lst _ (by first | assumption | decide | omega | (dsimp only; omega) | (simp; done) | (simp; omega) | (simp only [actOf, compAct]; omega))) rfl) (Bin.lt _ _)) (by simp; omega)) (.setBx (p := p) (r := []) (d := .int ((b.sd * 69069 + 12345).fmod 4294967296)) rfl (.bin (.bin (.bin (by exact Ev.sub (Ev.name rfl) (Ev.int _ _ _) (Sub.bx lookup_here (by first | assumption | decide | omega | (dsimp only; omega) | (simp; done) | (simp; omega) | (simp only [actOf, compAct]; omega)) (by first | assumption | decide | omega | (dsimp only; omega) | (simp; done) | (simp; omega) | (simp only [actOf, compAct]; omega)) rfl)) (.int _ _ _) (.mul _ _ (mulOk_l _ hb.lo hb.hi))) (.int _ _ _) (.add _ _)) (.int _ _ _) (.mod _ _ (by decide))) (.name rfl) (.int _ _ _) (by decide) (by decide) (by simp)
      (.retE (.bin (.bin (by exact Ev.sub (Ev.name rfl) (Ev.int _ _ _) (Sub.bx lookup_here (by first | assumption | decide | omega | (dsimp only; omega) | (simp; done) | (simp; omega) | (simp only [actOf, compAct]; omega)) (by first | assumption | decide | omega | (dsimp only; omega) | (simp; done) | (simp; omega) | (simp only [actOf, compAct]; omega)) rfl)) (.int _ _ _) (.div _ _ (by decide) (noPylong _))) (.name rfl) (.mod _ _ hm0))))
end


section
open PySem PySem.W PySem.Calls PyProof.Rows PySem.SeqAt
variable {c : Cx} {a : Act} {g : Heap} {s : Shared} {σ : Sg}

theorem Ev.take {p : Addr} {b : Bx} {r : Own} {np pos : Pos} {e1 e2 : Expr} {many : Int} (R : Real c) (hown : σ.own = (p, bxD b) :: r) (hb : b.Ok) (hm : many ≠ 0) (hn : 1 ≤ a.n) (h : EvAll c a σ pos [e1, e2] (.ok ([.adr p, .int many], σ.own))) (hx : a.env.kindOf "_law_take" = some .globalImplicit)
    (he : starEach [e1, e2] a.env = (false, eval e1 a.env) :: starEach [e2] a.env := by rfl) (hplain : (backTo pos (starEach [e2] a.env)).any (·.1) = false := by rfl) :
    Ev c a σ (.Call (.Name "_law_take" np) [e1, e2] [] pos) (.ok (.int (takeV b many).1, (p, bxD (takeV b many).2) :: r)) := by
  have := Ev.callFn (σ := σ) (p := np) R h (ok_take R b hb many hm (by rw [hown]; exact lookup_here) hn) hx rfl rfl (by decide) he hplain
  rw [hown, setOwn_here] at this
  exact this

noncomputable def bGet : Bs := [71, 69, 84]
noncomputable def requestV (form : Int) : List Fld :=
  if form == 3 then [(nMethod, bConnect), (nAuth, [97, 58, 49])] else
  if form == 2 then [(nMethod, bOptions), (nScheme, bHttps), (nPath, [42]), (nAuth, [97])] else
  if form == 1 then [(nMethod, bGet), (nScheme, bHttps), (nPath, [47, 112]), (nHost, [97])] else [(nMethod, bGet), (nScheme, bHttps), (nPath, [47, 112]), (nAuth, [97])]

set_option maxHeartbeats 2000000 in
theorem ok_lrequest (R : Real c) (b : Bx) (hb : b.Ok) {p : Addr} (hp : σ.own.lookup p = some (bxD b)) (hn : 2 ≤ a.n) : CallOk c a σ (.fn (fd c 171)) [.adr p] (.ok (fldsD (requestV (takeV b 4).1), setOwn σ.own p (bxD (takeV b 4).2))) := by
  refine call_box (fn_law_request R) (n := 1) (r := .ok (fldsD (requestV (takeV b 4).1))) (b0 := bxD b) (b1 := bxD (takeV b 4).2) rfl hn hp fun A m L fa F g0 s0 hm => ?_
  have ht := take_ok hb (many := 4) (by decide)
  refine Body.ofR (ω := [(p, bxD (takeV b 4).2)]) ?_ (by simp)
  refine .cons (.assign (.take R rfl hb (many := 4) (by decide) hm (by exact EvAll.cons (Ev.name rfl) (EvAll.cons (Ev.int _ _ _) EvAll.nil)) rfl) (.inl rfl)) ?_
  generalize takeV b 4 = q at ht ⊢
  obtain ⟨form, b'⟩ := q
  obtain ⟨h1, h2, h3⟩ := ht
  dsimp only at h2 h3 ⊢
  have h4 : form = 0 ∨ form = 1 ∨ form = 2 ∨ form = 3 := by omega
  rcases h4 with rfl | rfl | rfl | rfl
  · exact .ifSkip (.cast (by exact Tr.cmp (Ev.name rfl) (Ev.int _ _ _) (Bin.eq (EqD.int _ _))) (by rfl)) (.asgn (d := .bytes [47, 112]) (.cast (by exact Ev.ite (Tr.cmp (Ev.name rfl) (Ev.int _ _ _) (Bin.eq (EqD.int _ _))) (fun _ => (Ev.bytes _ _ _)) (fun _ => (Ev.bytes _ _ _))) (by rfl)) (.inl rfl) (.asgn (by exact Ev.list (EvAll.cons (Ev.tuple (EvAll.cons (Ev.bytes _ _ _) (EvAll.cons (Ev.ite (Tr.cmp (Ev.name rfl) (Ev.int _ _ _) (Bin.eq (EqD.int _ _))) (fun _ => (Ev.bytes _ _ _)) (fun _ => (Ev.bytes _ _ _))) EvAll.nil))) (EvAll.cons (Ev.tuple (EvAll.cons (Ev.bytes _ _ _) (EvAll.cons (Ev.bytes _ _ _) EvAll.nil))) (EvAll.cons (Ev.tuple (EvAll.cons (Ev.bytes _ _ _) (EvAll.cons (Ev.name rfl) EvAll.nil))) EvAll.nil)))) (.inl rfl) (.retE (.cast (by exact Ev.bin (Ev.name rfl) (Ev.ite (Tr.cmp (Ev.name rfl) (Ev.int _ _ _) (Bin.ne (EqD.int _ _))) (fun _ => (Ev.list (EvAll.cons (Ev.tuple (EvAll.cons (Ev.bytes _ _ _) (EvAll.cons (Ev.bytes _ _ _) EvAll.nil))) EvAll.nil))) (fun _ => (Ev.list (EvAll.cons (Ev.tuple (EvAll.cons (Ev.bytes _ _ _) (EvAll.cons (Ev.bytes _ _ _) EvAll.nil))) EvAll.nil)))) (Bin.addList (by first | assumption | decide | omega | (dsimp only; omega) | (simp; done) | (simp; omega) | (simp only [actOf, compAct]; omega)))) (by rfl)))))
  · exact .ifSkip (.cast (by exact Tr.cmp (Ev.name rfl) (Ev.int _ _ _) (Bin.eq (EqD.int _ _))) (by rfl)) (.asgn (d := .bytes [47, 112]) (.cast (by exact Ev.ite (Tr.cmp (Ev.name rfl) (Ev.int _ _ _) (Bin.eq (EqD.int _ _))) (fun _ => (Ev.bytes _ _ _)) (fun _ => (Ev.bytes _ _ _))) (by rfl)) (.inl rfl) (.asgn (by exact Ev.list (EvAll.cons (Ev.tuple (EvAll.cons (Ev.bytes _ _ _) (EvAll.cons (Ev.ite (Tr.cmp (Ev.name rfl) (Ev.int _ _ _) (Bin.eq (EqD.int _ _))) (fun _ => (Ev.bytes _ _ _)) (fun _ => (Ev.bytes _ _ _))) EvAll.nil))) (EvAll.cons (Ev.tuple (EvAll.cons (Ev.bytes _ _ _) (EvAll.cons (Ev.bytes _ _ _) EvAll.nil))) (EvAll.cons (Ev.tuple (EvAll.cons (Ev.bytes _ _ _) (EvAll.cons (Ev.name rfl) EvAll.nil))) EvAll.nil)))) (.inl rfl) (.retE (.cast (by exact Ev.bin (Ev.name rfl) (Ev.ite (Tr.cmp (Ev.name rfl) (Ev.int _ _ _) (Bin.ne (EqD.int _ _))) (fun _ => (Ev.list (EvAll.cons (Ev.tuple (EvAll.cons (Ev.bytes _ _ _) (EvAll.cons (Ev.bytes _ _ _) EvAll.nil))) EvAll.nil))) (fun _ => (Ev.list (EvAll.cons (Ev.tuple (EvAll.cons (Ev.bytes _ _ _) (EvAll.cons (Ev.bytes _ _ _) EvAll.nil))) EvAll.nil)))) (Bin.addList (by first | assumption | decide | omega | (dsimp only; omega) | (simp; done) | (simp; omega) | (simp only [actOf, compAct]; omega)))) (by rfl)))))
  · exact .ifSkip (.cast (by exact Tr.cmp (Ev.name rfl) (Ev.int _ _ _) (Bin.eq (EqD.int _ _))) (by rfl)) (.asgn (d := .bytes [42]) (.cast (by exact Ev.ite (Tr.cmp (Ev.name rfl) (Ev.int _ _ _) (Bin.eq (EqD.int _ _))) (fun _ => (Ev.bytes _ _ _)) (fun _ => (Ev.bytes _ _ _))) (by rfl)) (.inl rfl) (.asgn (by exact Ev.list (EvAll.cons (Ev.tuple (EvAll.cons (Ev.bytes _ _ _) (EvAll.cons (Ev.ite (Tr.cmp (Ev.name rfl) (Ev.int _ _ _) (Bin.eq (EqD.int _ _))) (fun _ => (Ev.bytes _ _ _)) (fun _ => (Ev.bytes _ _ _))) EvAll.nil))) (EvAll.cons (Ev.tuple (EvAll.cons (Ev.bytes _ _ _) (EvAll.cons (Ev.bytes _ _ _) EvAll.nil))) (EvAll.cons (Ev.tuple (EvAll.cons (Ev.bytes _ _ _) (EvAll.cons (Ev.name rfl) EvAll.nil))) EvAll.nil)))) (.inl rfl) (.retE (.cast (by exact Ev.bin (Ev.name rfl) (Ev.ite (Tr.cmp (Ev.name rfl) (Ev.int _ _ _) (Bin.ne (EqD.int _ _))) (fun _ => (Ev.list (EvAll.cons (Ev.tuple (EvAll.cons (Ev.bytes _ _ _) (EvAll.cons (Ev.bytes _ _ _) EvAll.nil))) EvAll.nil))) (fun _ => (Ev.list (EvAll.cons (Ev.tuple (EvAll.cons (Ev.bytes _ _ _) (EvAll.cons (Ev.bytes _ _ _) EvAll.nil))) EvAll.nil)))) (Bin.addList (by first | assumption | decide | omega | (dsimp only; omega) | (simp; done) | (simp; omega) | (simp only [actOf, compAct]; omega)))) (by rfl)))))
  · exact .ret (.ifT (.cast (by exact Tr.cmp (Ev.name rfl) (Ev.int _ _ _) (Bin.eq (EqD.int _ _))) (by rfl)) (.retE (.cast (by exact Ev.list (EvAll.cons (Ev.tuple (EvAll.cons (Ev.bytes _ _ _) (EvAll.cons (Ev.bytes _ _ _) EvAll.nil))) (EvAll.cons (Ev.tuple (EvAll.cons (Ev.bytes _ _ _) (EvAll.cons (Ev.bytes _ _ _) EvAll.nil))) EvAll.nil))) (by rfl))))
end


section
open PySem PySem.W PySem.Calls PyProof.Rows PySem.SeqAt
variable {c : Cx} {a : Act} {g : Heap} {s : Shared} {σ : Sg}

noncomputable def extraL : List Fld := [([120, 45, 121], [118]), ([88], [118]), ([97, 32, 98], [118]), ([116, 101], [103, 122, 105, 112]), ([116, 101], [116, 114, 97, 105, 108, 101, 114, 115]), ([117, 112, 103, 114, 97, 100, 101], [118]),
  ([118], [32, 118]), ([118], [118, 10]), ([], [118]), (nCL, [53]), (nCL, [120]), ([58, 111, 100, 100], [118]), (nHost, [98]), (nCL, [48, 53])]
noncomputable def extraAt (i : Int) : Fld := extraL.getD i.toNat ([], [])
noncomputable def spoil (form : Int) (at_ : Int) (l : List Fld) : List Fld :=
  if form == 0 then l else if form == 1 then cutOf l none (some at_) ++ cutOf l (some (at_ + 1)) none else if form == 2 then l ++ [l.getD at_.toNat ([], [])] else if form == 3 then extraL.getD 0 ([], []) :: l else
    cutOf l none (some at_) ++ [((l.getD at_.toNat ([], [])).1, [])] ++ cutOf l (some (at_ + 1)) none
noncomputable def spoiltV (b : Bx) (l : List Fld) : List Fld × Bx :=
  let f := takeV b 14
  let t := takeV f.2 l.length
  if decide (f.1 < 5) then (spoil f.1 t.1 l, t.2) else
    let r := takeV t.2 2
    let x := takeV r.2 14
    if r.1 == 0 then (l ++ [extraAt x.1], x.2) else
      let y := takeV x.2 14
      (l ++ [extraAt x.1, extraAt y.1], y.2)

theorem extra_get {i : Int} (h0 : 0 ≤ i) (h : i < 14) : (extraL.map fldD)[i.toNat]? = some (fldD (extraAt i)) := by
  have : i.toNat < extraL.length := by show i.toNat < 14; omega
  unfold extraAt
  rw [List.getElem?_map, List.getElem?_eq_getElem this, List.getD_eq_getElem?_getD, List.getElem?_eq_getElem this]; rfl
theorem fld_get {l : List Fld} {i : Int} (h0 : 0 ≤ i) (h : i < l.length) : (l.map fldD)[i.toNat]? = some (fldD (l.getD i.toNat ([], []))) := by
  have : i.toNat < l.length := by omega
  rw [List.getElem?_map, List.getElem?_eq_getElem this, List.getD_eq_getElem?_getD, List.getElem?_eq_getElem this]; rfl
theorem cut_map {α β : Type} (f : α → β) (l : List α) (lo hi : Option Int) : cutOf (l.map f) lo hi = (cutOf l lo hi).map f := by unfold cutOf; simp

/-- the draws of a comprehension -/
theorem extra_turn {b : Act} {p : Addr} {bx : Bx} {l₁ : List (PySem.Str × D)} {ζ : Own} {np lp sp : Pos} {n1 n2 n3 n4 lenp : Pos} (R : Real c) (hb : bx.Ok) (hn : 1 ≤ b.n) (h1 : l₁.lookup ("extra" : PySem.Str) = some (fldsD extraL)) (h2 : l₁.lookup ("box" : PySem.Str) = some (.adr p))
    (k1 : b.env.kindOf "_law_take" = some .globalImplicit) (k2 : b.env.kindOf "len" = some .globalImplicit)
    (he1 : ∀ x es, starEach (.Name x n4 :: es) b.env = (false, eval (.Name x n4) b.env) :: starEach es b.env)
    (he2 : ∀ x es, starEach (.Name x n2 :: es) b.env = (false, eval (.Name x n2) b.env) :: starEach es b.env)
    (he3 : ∀ es, starEach (.Call (.Name "len" n3) [.Name "extra" n4] [] lenp :: es) b.env = (false, eval (.Call (.Name "len" n3) [.Name "extra" n4] [] lenp) b.env) :: starEach es b.env)
    (hp1 : (backTo lenp (starEach [] b.env)).any (·.1) = false) (hp2 : (backTo sp (starEach [.Call (.Name "len" n3) [.Name "extra" n4] [] lenp] b.env)).any (·.1) = false) :
    Ev c b ⟨l₁, [(p, bxD bx)] ++ ζ⟩ (.Subscript (.Name "extra" np) (.Call (.Name "_law_take" n1) [.Name "box" n2, .Call (.Name "len" n3) [.Name "extra" n4] [] lenp] [] sp) lp) (.ok (fldD (extraAt (takeV bx 14).1), [(p, bxD (takeV bx 14).2)] ++ ζ)) := by
  obtain ⟨t1, t2, t3⟩ := take_ok hb (many := 14) (by decide)
  refine .sub (ω₁ := [(p, bxD bx)] ++ ζ) (x := fldsD extraL) (y := .int (takeV bx 14).1) (.name h1) (.take (many := 14) R rfl hb (by decide) hn ?_ k1 (he2 _ _) hp2) (.lst t2 (by omega) (extra_get t2 t3))
  exact .cons (.name h2) (.cons (.len2 R (.cons (.name h1) .nil (he1 _)) (.lst _ (by decide)) k2 (he1 _ _) hp1) .nil he3) (he2 _)

theorem cut_len {α : Type} (l : List α) (lo hi : Option Int) : (cutOf l lo hi).length ≤ l.length := by unfold cutOf; simp; omega
theorem cut_lenF (l : List Fld) (lo hi : Option Int) : (cutOf (l.map fldD) lo hi).length ≤ l.length := by have := cut_len (l.map fldD) lo hi; simpa using this
theorem turn1 {b : Act} {p : Addr} {bx : Bx} {lc : List (PySem.Str × D)} {i : Int} {tp : Pos} {elt : Expr} {ds : List D} {es : List D} {ω₃ : Own} {e : D} {bx' : Bx} (hx : Stores b "turn") (nx : lc.lookup ("turn" : PySem.Str) = none)
    (h : ∀ ζ, Ev c b ⟨("turn", .int i) :: lc, [(p, bxD bx)] ++ ζ⟩ elt (.ok (e, [(p, bxD bx')] ++ ζ))) (h2 : CTurns c b lc (.Name "turn" tp) [] elt [(p, bxD bx')] ds (.ok (es, ω₃))) :
    CTurns c b lc (.Name "turn" tp) [] elt [(p, bxD bx)] (.int i :: ds) (.ok (e :: es, ω₃)) :=
  .take (ω₁ := [(p, bxD bx)]) (fun ζ => .name hx) (fun x d hl => by
    rw [List.lookup_cons]
    cases q : x == ("turn" : PySem.Str) with
    | true => rw [eq_of_beq q, nx] at hl; cases hl
    | false => exact hl) (fun ζ => .nil) h h2

set_option maxHeartbeats 4000000 in
theorem ok_spoilt (R : Real c) (b : Bx) (hb : b.Ok) (l : List Fld) (h0 : 0 < l.length) (hz : l.length ≤ 100) {p : Addr} (hp : σ.own.lookup p = some (bxD b)) (hn : 2 ≤ a.n) : CallOk c a σ (.fn (fd c 176)) [.adr p, fldsD l] (.ok (fldsD (spoiltV b l).1, setOwn σ.own p (bxD (spoiltV b l).2))) := by
  refine call_box (fn_law_spoilt R) (n := 1) (r := .ok (fldsD (spoiltV b l).1)) (b0 := bxD b) (b1 := bxD (spoiltV b l).2) rfl hn hp fun A m L fa F g0 s0 hm => ?_
  refine Body.ofR (ω := [(p, bxD (spoiltV b l).2)]) ?_ (by simp)
  have hm1 : 1 ≤ (actOf (fd c 176) A m L fa F g0 s0 [p]).n := hm
  unfold spoiltV
  have hf := take_ok hb (many := 14) (by decide)
  have hlen : ((l.map fldD).length : Int) = l.length := by rw [List.length_map]
  refine .cons (.assignTup (σ' := ⟨[("form", .int (takeV b 14).1), ("at", .int (takeV (takeV b 14).2 l.length).1), ("box", .adr p), ("fields", fldsD l)], [(p, bxD (takeV (takeV b 14).2 l.length).2)]⟩) (.tuple (.cons (.take R rfl hb (many := 14) (by decide) hm1 (by exact EvAll.cons (Ev.name rfl) (EvAll.cons (Ev.int _ _ _) EvAll.nil)) rfl) (.cons (.take R rfl hf.1 (many := l.length) (by omega) hm1 (.cons (.name rfl) (.cons (.cast (d := .int ((l.map fldD).length)) (by exact Ev.len2 (by assumption) (EvAll.cons (Ev.name rfl) EvAll.nil) (LenOk.lst _ (by first | assumption | decide | omega | (dsimp only; omega) | (simp; done) | (simp; omega) | (simp only [actOf, compAct]; omega))) rfl) (by rw [hlen])) .nil)) rfl) .nil)) (by simp)) (.inr ⟨["form", "at"], rfl, rfl, .bind (.inl rfl) (.bind (.inl rfl) .nil)⟩)) ?_
  generalize takeV b 14 = f at hf ⊢
  obtain ⟨f1, f2, f3⟩ := hf
  have ht := take_ok f1 (many := l.length) (by omega)
  dsimp only
  generalize takeV f.2 l.length = t at ht ⊢
  obtain ⟨t1, t2, t3⟩ := ht
  refine .asgn (by exact Ev.list (EvAll.cons (Ev.tuple (EvAll.cons (Ev.bytes _ _ _) (EvAll.cons (Ev.bytes _ _ _) EvAll.nil))) (EvAll.cons (Ev.tuple (EvAll.cons (Ev.bytes _ _ _) (EvAll.cons (Ev.bytes _ _ _) EvAll.nil))) (EvAll.cons (Ev.tuple (EvAll.cons (Ev.bytes _ _ _) (EvAll.cons (Ev.bytes _ _ _) EvAll.nil))) (EvAll.cons (Ev.tuple (EvAll.cons (Ev.bytes _ _ _) (EvAll.cons (Ev.bytes _ _ _) EvAll.nil))) (EvAll.cons (Ev.tuple (EvAll.cons (Ev.bytes _ _ _) (EvAll.cons (Ev.bytes _ _ _) EvAll.nil))) (EvAll.cons (Ev.tuple (EvAll.cons (Ev.bytes _ _ _) (EvAll.cons (Ev.bytes _ _ _) EvAll.nil))) EvAll.nil))))))) (.inr ⟨rfl, rfl, _, rfl⟩) (.asgn (by exact Ev.bin (Ev.name rfl) (Ev.list (EvAll.cons (Ev.tuple (EvAll.cons (Ev.bytes _ _ _) (EvAll.cons (Ev.bytes _ _ _) EvAll.nil))) (EvAll.cons (Ev.tuple (EvAll.cons (Ev.bytes _ _ _) (EvAll.cons (Ev.bytes _ _ _) EvAll.nil))) (EvAll.cons (Ev.tuple (EvAll.cons (Ev.bytes _ _ _) (EvAll.cons (Ev.bytes _ _ _) EvAll.nil))) (EvAll.cons (Ev.tuple (EvAll.cons (Ev.bytes _ _ _) (EvAll.cons (Ev.bytes _ _ _) EvAll.nil))) (EvAll.cons (Ev.tuple (EvAll.cons (Ev.bytes _ _ _) (EvAll.cons (Ev.bytes _ _ _) EvAll.nil))) EvAll.nil)))))) (Bin.addList (by first | assumption | decide | omega | (dsimp only; omega) | (simp; done) | (simp; omega) | (simp only [actOf, compAct]; omega)))) (.inr ⟨rfl, rfl, _, rfl⟩) (.asgn (d := fldsD extraL) (.cast (by exact Ev.bin (Ev.name rfl) (Ev.list (EvAll.cons (Ev.tuple (EvAll.cons (Ev.bytes _ _ _) (EvAll.cons (Ev.bytes _ _ _) EvAll.nil))) (EvAll.cons (Ev.tuple (EvAll.cons (Ev.bytes _ _ _) (EvAll.cons (Ev.bytes _ _ _) EvAll.nil))) (EvAll.cons (Ev.tuple (EvAll.cons (Ev.bytes _ _ _) (EvAll.cons (Ev.bytes _ _ _) EvAll.nil))) EvAll.nil)))) (Bin.addList (by first | assumption | decide | omega | (dsimp only; omega) | (simp; done) | (simp; omega) | (simp only [actOf, compAct]; omega)))) (by rfl)) (.inr ⟨rfl, rfl, _, rfl⟩) ?_))
  obtain ⟨form, bf⟩ := f
  obtain ⟨at_, bt⟩ := t
  dsimp only at *
  have e1 := cut_lenF l none (some at_)
  have e2 := cut_lenF l (some (at_ + 1)) none
  by_cases h5 : form < 5
  · rw [if_pos (by simpa using h5)]
    have h4 : form = 0 ∨ form = 1 ∨ form = 2 ∨ form = 3 ∨ form = 4 := by omega
    rcases h4 with rfl | rfl | rfl | rfl | rfl
    · exact .ret (.ifT (.cast (by exact Tr.cmp (Ev.name rfl) (Ev.int _ _ _) (Bin.eq (EqD.int _ _))) (by rfl)) (.retE (.name rfl)))
    · refine .ifSkip (.cast (by exact Tr.cmp (Ev.name rfl) (Ev.int _ _ _) (Bin.eq (EqD.int _ _))) (by rfl)) (.ret (.ifT (.cast (by exact Tr.cmp (Ev.name rfl) (Ev.int _ _ _) (Bin.eq (EqD.int _ _))) (by rfl)) (.retE (.bin (by exact Ev.slice2 (Ev.name rfl) Part.none (Part.name rfl) (CutOk.lst _ _ _ (by first | assumption | decide | omega | (dsimp only; omega) | (simp; done) | (simp; omega) | (simp only [actOf, compAct]; omega)) (fun _ => (fun _ => rfl)))) (by exact Ev.slice2 (Ev.name rfl) (Part.nameAdd rfl) Part.none (CutOk.lst _ _ _ (by first | assumption | decide | omega | (dsimp only; omega) | (simp; done) | (simp; omega) | (simp only [actOf, compAct]; omega)) (fun _ => (fun _ => rfl)))) (.cast (.addList ?_) ?_)))))
      · omega
      · rw [cut_map, cut_map, ← List.map_append]; rfl
    · refine .ifSkip (.cast (by exact Tr.cmp (Ev.name rfl) (Ev.int _ _ _) (Bin.eq (EqD.int _ _))) (by rfl)) (.ifSkip (.cast (by exact Tr.cmp (Ev.name rfl) (Ev.int _ _ _) (Bin.eq (EqD.int _ _))) (by rfl)) (.ret (.ifT (.cast (by exact Tr.cmp (Ev.name rfl) (Ev.int _ _ _) (Bin.eq (EqD.int _ _))) (by rfl)) (.retE (.bin (y := .lst [fldD (l.getD at_.toNat ([], []))]) (.name rfl) (.list (.cons (.sub (.name rfl) (.name rfl) (.lst t2 (by omega) (fld_get t2 t3))) .nil) (by simp)) (.cast (.addList ?_) ?_))))))
      · simp; omega
      · rw [show [fldD (l.getD at_.toNat ([], []))] = [l.getD at_.toNat ([], [])].map fldD from rfl, ← List.map_append]; rfl
    · refine .ifSkip (.cast (by exact Tr.cmp (Ev.name rfl) (Ev.int _ _ _) (Bin.eq (EqD.int _ _))) (by rfl)) (.ifSkip (.cast (by exact Tr.cmp (Ev.name rfl) (Ev.int _ _ _) (Bin.eq (EqD.int _ _))) (by rfl)) (.ifSkip (.cast (by exact Tr.cmp (Ev.name rfl) (Ev.int _ _ _) (Bin.eq (EqD.int _ _))) (by rfl)) (.ret (.ifT (.cast (by exact Tr.cmp (Ev.name rfl) (Ev.int _ _ _) (Bin.eq (EqD.int _ _))) (by rfl)) (.retE (.bin (x := .lst [fldD (extraAt 0)]) (.list (.cons (.sub (.name rfl) (by exact Ev.int _ _ _) (.lst (by decide) (by decide) (extra_get (by decide) (by decide)))) .nil) (by simp)) (.name rfl) (.cast (.addList ?_) ?_)))))))
      · simp; omega
      · rfl
    · refine .ifSkip (.cast (by exact Tr.cmp (Ev.name rfl) (Ev.int _ _ _) (Bin.eq (EqD.int _ _))) (by rfl)) (.ifSkip (.cast (by exact Tr.cmp (Ev.name rfl) (Ev.int _ _ _) (Bin.eq (EqD.int _ _))) (by rfl)) (.ifSkip (.cast (by exact Tr.cmp (Ev.name rfl) (Ev.int _ _ _) (Bin.eq (EqD.int _ _))) (by rfl)) (.ifSkip (.cast (by exact Tr.cmp (Ev.name rfl) (Ev.int _ _ _) (Bin.eq (EqD.int _ _))) (by rfl)) (.ret (.ifT (.cast (by exact Tr.cmp (Ev.name rfl) (Ev.int _ _ _) (Bin.eq (EqD.int _ _))) (by rfl)) (.retE (.bin (.bin (y := .lst [.tup [.bytes (l.getD at_.toNat ([], [])).1, .bytes []]]) (by exact Ev.slice2 (Ev.name rfl) Part.none (Part.name rfl) (CutOk.lst _ _ _ (by first | assumption | decide | omega | (dsimp only; omega) | (simp; done) | (simp; omega) | (simp only [actOf, compAct]; omega)) (fun _ => (fun _ => rfl)))) (.list (.cons (.tuple (.cons (.sub (x := fldD (l.getD at_.toNat ([], []))) (.sub (.name rfl) (.name rfl) (.lst t2 (by omega) (fld_get t2 t3))) (by exact Ev.int _ _ _) (.tup (by decide) (by decide) rfl)) (.cons (by exact Ev.bytes _ _ _) .nil)) (by simp)) .nil) (by simp)) (.addList ?_)) (by exact Ev.slice2 (Ev.name rfl) (Part.nameAdd rfl) Part.none (CutOk.lst _ _ _ (by first | assumption | decide | omega | (dsimp only; omega) | (simp; done) | (simp; omega) | (simp only [actOf, compAct]; omega)) (fun _ => (fun _ => rfl)))) (.cast (.addList ?_) ?_))))))))
      · simp; omega
      · simp; omega
      · rw [cut_map, cut_map, show [D.tup [.bytes (l.getD at_.toNat ([], [])).1, .bytes []]] = [((l.getD at_.toNat ([], [])).1, ([] : Bs))].map fldD from rfl, ← List.map_append, ← List.map_append]; rfl
  · rw [if_neg (by simpa using h5)]
    have n0 : (form == 0) = false := by simp; omega
    have n1 : (form == 1) = false := by simp; omega
    have n2 : (form == 2) = false := by simp; omega
    have n3 : (form == 3) = false := by simp; omega
    have n4 : (form == 4) = false := by simp; omega
    refine .ifSkip (.cast (by exact Tr.cmp (Ev.name rfl) (Ev.int _ _ _) (Bin.eq (EqD.int _ _))) n0) (.ifSkip (.cast (by exact Tr.cmp (Ev.name rfl) (Ev.int _ _ _) (Bin.eq (EqD.int _ _))) n1) (.ifSkip (.cast (by exact Tr.cmp (Ev.name rfl) (Ev.int _ _ _) (Bin.eq (EqD.int _ _))) n2) (.ifSkip (.cast (by exact Tr.cmp (Ev.name rfl) (Ev.int _ _ _) (Bin.eq (EqD.int _ _))) n3) (.ifSkip (.cast (by exact Tr.cmp (Ev.name rfl) (Ev.int _ _ _) (Bin.eq (EqD.int _ _))) n4) ?_))))
    have hr := take_ok t1 (many := 2) (by decide)
    have it : ∀ (n : Nat), (1 + (takeV bt 2).1 : Int) = n → n ≤ 1000 → ∀ {np1 np2 np3 q1 q2 q3 q4 q5 : Pos} (loc : List (PySem.Str × D)), loc.lookup ("box" : PySem.Str) = some (.adr p) → Ev c (actOf (fd c 176) A m L fa F g0 s0 [p]) ⟨loc, [(p, bxD bt)]⟩ (.Call (.Name "range" np1) [.BinOp (.Constant (.int 1) 0 q1) .Add (.Call (.Name "_law_take" np2) [.Name "box" np3, .Constant (.int 2) 0 q2] [] q3) q4] [] q5) (.ok (.rng n, [(p, bxD (takeV bt 2).2)])) := fun n hn hz np1 np2 np3 q1 q2 q3 q4 q5 loc hloc =>
      .call (f := .typ "range") (ω₁ := [(p, bxD bt)]) trivial (.built R rfl rfl (fun _ => .typ _) (by decide) rfl (by decide)) (.cons (.cast (.bin (.int _ _ _) (.take R rfl t1 (many := 2) (by decide) hm1 (.cons (.name hloc) (.cons (.int _ _ _) .nil)) rfl) (.add _ _)) (congrArg D.int hn)) .nil) (.range n hz)
    generalize takeV bt 2 = r at hr it ⊢
    obtain ⟨r1, r2⟩ := r
    obtain ⟨r3, r4, r5⟩ := hr
    dsimp only at *
    have hx := take_ok r3 (many := 14) (by decide)
    have hω : ∀ (w w' : D) (es : List D) (ω : Own), ∀ q ∈ [(p, w')], (q ∈ ω ∧ q.1 ∉ [(p, w)].map (·.1)) ∨ (q.1 ∈ [(p, w)].map (·.1) ∧ ∀ es' ωo, Out.ok (es, [(p, w')]) = .ok (es', ωo) → q ∈ ωo) := fun w w' es ω q hq => by
      rw [List.mem_singleton.mp hq]; exact .inr ⟨by simp, fun es ωo e => by cases e; simp⟩
    have h6 : r1 = 0 ∨ r1 = 1 := by omega
    rcases h6 with rfl | rfl
    · refine .retE (.bin (x := fldsD l) (y := .lst [fldD (extraAt (takeV r2 14).1)]) (.name rfl) (Ev.comp (o := .ok ([fldD (extraAt (takeV r2 14).1)], [(p, bxD (takeV r2 14).2)])) (ω := [(p, bxD r2)]) (ωi := [(p, bxD r2)]) (ω' := [(p, bxD (takeV r2 14).2)]) (ds := [.int 0]) (d := .rng 1) (it 1 rfl (by omega) _ rfl) (.rng 1 (by omega)) (.of [("extra", _, _), ("box", _, _)] rfl ⟨rfl, rfl, .inl rfl, .inl rfl, rfl, rfl, .inl rfl, .inl rfl, trivial⟩ rfl rfl rfl) (by simp) (by simp) (by simp) (fun C g0 s0 => turn1 (.inl rfl) rfl (fun ζ => extra_turn R r3 hm1 rfl rfl rfl rfl (fun _ _ => rfl) (fun _ _ => rfl) (fun _ => rfl) rfl rfl) .nil) (hω _ _ _ _) (by simp)) (.cast (.addList ?_) ?_))
      · simp; omega
      · rw [show [fldD (extraAt (takeV r2 14).1)] = [extraAt (takeV r2 14).1].map fldD from rfl, ← List.map_append]; rfl
    · refine .retE (.bin (x := fldsD l) (y := .lst [fldD (extraAt (takeV r2 14).1), fldD (extraAt (takeV (takeV r2 14).2 14).1)]) (.name rfl) (Ev.comp (o := .ok ([fldD (extraAt (takeV r2 14).1), fldD (extraAt (takeV (takeV r2 14).2 14).1)], [(p, bxD (takeV (takeV r2 14).2 14).2)])) (ω := [(p, bxD r2)]) (ωi := [(p, bxD r2)]) (ω' := [(p, bxD (takeV (takeV r2 14).2 14).2)]) (ds := [.int 0, .int 1]) (d := .rng 2) (it 2 rfl (by omega) _ rfl) (.rng 2 (by omega)) (.of [("extra", _, _), ("box", _, _)] rfl ⟨rfl, rfl, .inl rfl, .inl rfl, rfl, rfl, .inl rfl, .inl rfl, trivial⟩ rfl rfl rfl) (by simp) (by simp) (by simp) (fun C g0 s0 => turn1 (.inl rfl) rfl (fun ζ => extra_turn R r3 hm1 rfl rfl rfl rfl (fun _ _ => rfl) (fun _ _ => rfl) (fun _ => rfl) rfl rfl) (turn1 (.inl rfl) rfl (fun ζ => extra_turn R hx.1 hm1 rfl rfl rfl rfl (fun _ _ => rfl) (fun _ _ => rfl) (fun _ => rfl) rfl rfl) .nil)) (hω _ _ _ _) (by simp)) (.cast (.addList ?_) ?_))
      · simp; omega
      · rw [show [fldD (extraAt (takeV r2 14).1), fldD (extraAt (takeV (takeV r2 14).2 14).1)] = [extraAt (takeV r2 14).1, extraAt (takeV (takeV r2 14).2 14).1].map fldD from rfl, ← List.map_append]; rfl
end


section
open PySem PySem.W PySem.Calls PyProof.Rows PySem.SeqAt
variable {c : Cx} {a : Act} {g : Heap} {s : Shared} {σ : Sg}

noncomputable def codeD (r : Out D) : D := match r with
  | .ok d => .tup [.str "given", d]
  | .err => .tup [.str "refused", .int 270]
theorem code_body (R : Real c) {f x : D} {r : Out D} {A : Around} {m : Nat} {L fa : Addr} {F : List Addr} {g0 : Heap} {s0 : Shared} (hf : Callee f)
    (h : CallOk c (actOf (fd c 164) A m L fa F g0 s0 []) ⟨[("act", f), ("args", x)], []⟩ f [x] (r.with [])) : Body c (actOf (fd c 164) A m L fa F g0 s0 []) ⟨[("act", f), ("args", x)], []⟩ (bodyOf (fd c 164)) (.ok (codeD r)) [] := by
  have hg : c.mg "H3Error" = some (.ref c.C) := by rw [R.C]; exact R.mg rfl
  cases r with
  | ok d =>
    exact .done (Ex.tryCode R.err (o := .ok (.tup [.str "given", d], [])) (.tuple (.cons (.str _ _ _) (.cons (.call (f := f) hf (.name rfl) (.cons (.name rfl) .nil) h) .nil)) (by simp)) hg rfl rfl) (by simp)
  | err =>
    exact .done (Ex.tryCode R.err (o := .err) (.tupleErr (.errR (.str _ _ _) (.err (.call (f := f) hf (.name rfl) (.cons (.name rfl) .nil) h)))) hg rfl rfl) (by simp)
theorem ok_code (R : Real c) {f x : D} {r : Out D} {n : Nat} (hf : Callee f) (h : ∀ A m L fa F g0 s0, n ≤ m → CallOk c (actOf (fd c 164) A m L fa F g0 s0 []) ⟨[("act", f), ("args", x)], []⟩ f [x] (r.with [])) (hn : n + 1 ≤ a.n) :
    CallOk c a σ (.fn (fd c 164)) [f, x] (.ok (codeD r, σ.own)) :=
  call_pure (fn_law_code R) (n := n) (r := .ok (codeD r)) rfl hn fun A m L fa F g0 s0 hm => code_body R hf (h A m L fa F g0 s0 hm)

theorem Exs.drop {ss : List Stmt} {d : D} {ω₁ ω₂ : Own} (h : Exs c a σ ss (.ok (.ret d (ω₁ ++ ω₂)))) : Exs c a σ ss (.ok (.ret d ω₂)) := .mk fun g s H => by
  refine wpAny_mono (h.run g s H) (fun f s₁ h => ?_) fun _ _ e => (nomatch e.1)
  cases f with
  | next => obtain ⟨σ', q, _⟩ := h; cases q
  | ret v =>
    obtain ⟨d, ω, q, g', loc, k, H', r⟩ := h
    cases q
    have nd := H'.own.apart
    rw [List.map_append, List.nodup_append] at nd
    exact ⟨_, _, rfl, g', loc, k, H'.sub (fun p hp => List.mem_append_right _ hp) nd.2.1, r⟩
  | _ => exact h.elim

noncomputable def lawSigns : Bs := [97, 98, 99, 100, 101, 102, 103, 104, 105, 106, 107, 108, 109, 110, 111, 112, 113, 114, 115, 116, 117, 118, 119, 120, 121, 122, 48, 49, 50, 51, 52, 53, 54, 55, 56, 57, 33, 35, 36, 37, 38, 39, 42, 43, 45, 46, 94, 95, 96, 124, 126]
noncomputable def hasB (x v : Bs) : Bool := (PySem.Builtin.Bytes.find? v.toArray x.toArray 0 v.length).isSome
noncomputable def lawBadName (n : Bs) : Bool := (bare n == []) || (bare n).any fun o => !lawSigns.contains o
noncomputable def lawBadVal (v : Bs) : Bool := !(stripB v [32, 9] == v) || (hasB [10] v || (hasB [13] v || hasB [0] v))
noncomputable def lawConn : List Bs := [[99, 111, 110, 110, 101, 99, 116, 105, 111, 110], [117, 112, 103, 114, 97, 100, 101], [107, 101, 101, 112, 45, 97, 108, 105, 118, 101], [116, 114, 97, 110, 115, 102, 101, 114, 45, 101, 110, 99, 111, 100, 105, 110, 103], [112, 114, 111, 120, 121, 45, 99, 111, 110, 110, 101, 99, 116, 105, 111, 110]]
noncomputable def lawBadTe (n v : Bs) : Bool := (n == [116, 101]) && !(v == [116, 114, 97, 105, 108, 101, 114, 115])
noncomputable def lawStep (b : Bool × List Bs) (f : Fld) : Tn (Bool × List Bs) :=
  if lawBadName f.1 then .ret (.bool false) [] else if lawBadVal f.2 then .ret (.bool false) [] else if lawConn.contains f.1 then .ret (.bool false) [] else if lawBadTe f.1 f.2 then .ret (.bool false) [] else
    if !(cutOf f.1 none (some 1) == [58]) then .go (true, b.2 ++ [f.1]) else if b.1 || b.2.contains f.1 then .ret (.bool false) [] else .go (b.1, b.2 ++ [f.1])
noncomputable def lawPlain (l : List Fld) : Bool := match foldT lawStep (false, []) l with
  | .go _ => true
  | _ => false

theorem Ev.octetsC {x : PySem.Str} {p1 p2 : Pos} {iter test : Expr} {scope : Scope} {pos : Pos} {b : List UInt8} {cl : List (PySem.Str × Addr)} {lc : List (PySem.Str × D)} (P : UInt8 → Bool) (h : Ev c a σ iter (.ok (.bytes b, σ.own))) (cg : Caught a σ.loc scope cl lc) (hz : b.length ≤ 1000) (hx : (relabel scope a.env).names.lookup x = some NameKind.local) (nx : lc.lookup x = Option.none)
    (hd : (x == ("__debug__" : PySem.Str)) = false) (hc : (x == ("__classdict__" : PySem.Str)) = false)
    (t : ∀ C g0 s0 (o : UInt8), o ∈ b → ∀ ζ, Tr c (compAct a scope cl C g0 s0 []) ⟨(x, .int o.toNat) :: lc, ζ⟩ test (.ok (P o, ζ)))
    (hs : ∀ x, foldedSetIterable iter a.env x = pure x := by intro _; rfl) : Ev c a σ (.ListComp (.Name x p1) [⟨.Name x p2, iter, [test], 0⟩] scope pos) (.ok (.lst ((b.filter P).map fun x => .int x.toNat), σ.own)) :=
  .compV (ωo := []) h (.bytes b) cg (by simpa using hz) (fun C g0 s0 => .over (fun x : UInt8 => .int x.toNat) (fun o => (x, .int o.toNat) :: lc) P (fun x => .int x.toNat) b (fun o _ ζ => .name (.inl hx)) (fun o _ y e h => by
    rw [List.lookup_cons]
    cases q : y == x with
    | true => rw [eq_of_beq q, nx] at h; cases h
    | false => exact h) (fun o ho ζ => .one (t C g0 s0 o ho ζ))
    (fun o _ _ ζ => .name (by simp) hd hc)) hs

theorem octet_back (x : UInt8) : ((x.toNat : Int)).toNat.toUInt8 = x := by simp
@[reducible] noncomputable def lpSt (l : List Fld) (p : Addr) (b : Bool × List Bs) : Sg := ⟨[("fields", fldsD l), ("behind", .bool b.1), ("met", .adr p)], [(p, valsD b.2)]⟩
theorem plain_end (l : List Fld) : ∀ b, TnE (fun _ : Bool × List Bs => .ok (.ret (.bool true) [])) (foldT lawStep b l) = .ok (.ret (.bool (match foldT lawStep b l with | .go _ => true | _ => false)) []) := by
  induction l with
  | nil => intro b; rfl
  | cons f r ih =>
    intro b
    rw [foldT]
    cases q : lawStep b f with
    | go b' => exact ih b'
    | err =>
      exfalso; unfold lawStep at q
      repeat' (split at q)
      all_goals cases q
    | ret d ω =>
      have : d = .bool false ∧ ω = [] := by
        unfold lawStep at q
        repeat' (split at q)
        all_goals (cases q; try exact ⟨rfl, rfl⟩)
      obtain ⟨rfl, rfl⟩ := this
      rfl
theorem lp_len {b b' : Bool × List Bs} {f : Fld} (q : lawStep b f = .go b') : b'.2.length = b.2.length + 1 := by
  unfold lawStep at q
  repeat' (split at q)
  all_goals (cases q; try simp)
theorem retF {ζ : Own} {p : Addr} {d : D} {loc : List (PySem.Str × D)} {r1 r2 : Pos} {k : Nat} : Exs c a ⟨loc, [(p, d)] ++ ζ⟩ [.Return (some (.Constant (.bool false) k r1)) r2] (.ok (.ret (.bool false) ([] ++ ζ))) := .drop (ω₁ := [(p, d)]) (.ret (.ret (.bool _ _ _)))

set_option maxHeartbeats 2000000 in
theorem ok_lplain (R : Real c) (l : List Fld) (hz : Sm l) (hn : 1 ≤ a.n) : CallOk c a σ (.fn (fd c 181)) [fldsD l] (.ok (.bool (lawPlain l), σ.own)) := by
  refine call_pure (fn_law_plain R) (n := 0) (r := .ok (.bool (lawPlain l))) rfl hn fun A m L fa F g0 s0 hm => ?_
  refine Body.ofR (ω := []) (Exs.assignTupN (.tuple (.there (by exact Ev.bool _ _ _) (.here (.list .nil) fun p => .nil)) (fun _ => by simp)) (σ' := fun p => ⟨[("behind", .bool false), ("met", .adr p), ("fields", fldsD l)], [(p, .lst [])]⟩) (fun p => .inr ⟨["behind", "met"], rfl, rfl, .bind (.inl rfl) (.bind (.inl rfl) .nil)⟩) fun p => ?_) (by simp)
  refine .cast (.loop (Ex.forT (lpSt l p) fldD lawStep (fun b f => [("value", .bytes f.2), ("name", .bytes f.1), ("fields", fldsD l), ("behind", .bool b.1), ("met", .adr p)])
      (fun b r => b.2.length + r.length ≤ 100 ∧ ∀ f ∈ r, f.1.length ≤ 50 ∧ f.2.length ≤ 50) l (false, []) (.name rfl) (.lst _) ⟨rfl, rfl, rfl, trivial⟩ ?_ ?_ (fun b f r ζ _ => .pair (.inl rfl) (.inl rfl)) ?_) (o' := fun b => .ok (.ret (.bool true) [])) fun b q => .drop (ω₁ := [(p, valsD b.2)]) (.ret (.ret (.bool _ _ _)))) (plain_end l _)
  · exact ⟨by have := hz.len; simp; omega, fun f hf => ⟨hz.name f hf, hz.val f hf⟩⟩
  · rintro b f r b' ⟨h1, h2⟩ q
    have := lp_len q
    simp only [List.length_cons] at h1
    exact ⟨by omega, fun x hx => h2 x (.tail _ hx)⟩
  · rintro b f r ζ ⟨h1, h2⟩
    obtain ⟨h3, h4⟩ := h2 f (.head _)
    have hbr : (bare f.1).length ≤ 1000 := by
      unfold bare; split
      · unfold cutOf; simp; omega
      · omega
    have hlb : b.2.length ≤ 1000 := by omega
    refine .asgn (d := .bytes (bare f.1)) (.cast (by exact Ev.ite (Tr.cmp (Ev.slice2 (Ev.name rfl) Part.none (Part.lit _ _ _) (CutOk.bytes _ _ _ (by first | assumption | decide | omega | (dsimp only; omega) | (simp; done) | (simp; omega) | (simp only [actOf, compAct]; omega)) (fun _ => (fun _ => (fun _ => rfl))))) (Ev.bytes _ _ _) (Bin.eq (EqD.bytes _ _))) (fun _ => (Ev.slice2 (Ev.name rfl) (Part.lit _ _ _) Part.none (CutOk.bytes _ _ _ (by first | assumption | decide | omega | (dsimp only; omega) | (simp; done) | (simp; omega) | (simp only [actOf, compAct]; omega)) (fun _ => (fun _ => (fun _ => rfl)))))) (fun _ => (Ev.name rfl))) ?_) (.inl rfl) (.asgn (by exact Ev.bytes _ _ _) (.inr ⟨rfl, rfl, _, rfl⟩) ?_)
    · unfold bare; split <;> rfl
    unfold lawStep
    cases q1 : lawBadName f.1 with
    | true => exact .ret (.ifT (.cast (.bool (.or (by exact Tr.cmp (Ev.name rfl) (Ev.bytes _ _ _) (Bin.eq (EqD.bytes _ _))) fun _ => .or (.neNil (.octetsC (fun o => !lawSigns.contains o) (.name rfl) (.of [("signs", _, _)] rfl ⟨rfl, rfl, .inl rfl, .inl rfl, trivial⟩ rfl rfl rfl) hbr rfl rfl (by decide) (by decide) fun C g0 s0 x _ ζ => .cast (by exact Tr.cmp (Ev.name rfl) (Ev.name rfl) (Bin.notInBytesInt _ _ (And.left (octet_lt _)) (And.right (octet_lt _)))) (congrArg (fun o => !lawSigns.contains o) (octet_back x)))) fun _ => .orN)) (by rw [filter_some, Bool.or_false]; exact q1)) retF)
    | false =>
    refine .ifSkip (.cast (.bool (.or (by exact Tr.cmp (Ev.name rfl) (Ev.bytes _ _ _) (Bin.eq (EqD.bytes _ _))) fun _ => .or (.neNil (.octetsC (fun o => !lawSigns.contains o) (.name rfl) (.of [("signs", _, _)] rfl ⟨rfl, rfl, .inl rfl, .inl rfl, trivial⟩ rfl rfl rfl) hbr rfl rfl (by decide) (by decide) fun C g0 s0 x _ ζ => .cast (by exact Tr.cmp (Ev.name rfl) (Ev.name rfl) (Bin.notInBytesInt _ _ (And.left (octet_lt _)) (And.right (octet_lt _)))) (congrArg (fun o => !lawSigns.contains o) (octet_back x)))) fun _ => .orN)) (by rw [filter_some, Bool.or_false]; exact q1)) ?_
    cases q2 : lawBadVal f.2 with
    | true => exact .ret (.ifT (.cast (by exact Tr.bool (TrL.or (Tr.cmp (Ev.strip (Ev.name rfl) (EvAll.cons (Ev.bytes _ _ _) EvAll.nil) (by first | assumption | decide | omega | (dsimp only; omega) | (simp; done) | (simp; omega) | (simp only [actOf, compAct]; omega))) (Ev.name rfl) (Bin.ne (EqD.bytes _ _))) (fun _ => (TrL.or (Tr.cmp (Ev.bytes _ _ _) (Ev.name rfl) (Bin.inBytes _ _)) (fun _ => (TrL.or (Tr.cmp (Ev.bytes _ _ _) (Ev.name rfl) (Bin.inBytes _ _)) (fun _ => (TrL.or (Tr.cmp (Ev.call (by trivial) (Ev.built (by assumption) rfl rfl (fun _ => (Rd.typ _)) (by first | assumption | decide | omega | (dsimp only; omega) | (simp; done) | (simp; omega) | (simp only [actOf, compAct]; omega)) rfl (by first | assumption | decide | omega | (dsimp only; omega) | (simp; done) | (simp; omega) | (simp only [actOf, compAct]; omega))) (EvAll.cons (Ev.int _ _ _) EvAll.nil) CallOk.bytes1) (Ev.name rfl) (Bin.inBytes _ _)) (fun _ => TrL.orN))))))))) (by rw [Bool.or_false]; exact q2)) retF)
    | false =>
    refine .ifSkip (.cast (by exact Tr.bool (TrL.or (Tr.cmp (Ev.strip (Ev.name rfl) (EvAll.cons (Ev.bytes _ _ _) EvAll.nil) (by first | assumption | decide | omega | (dsimp only; omega) | (simp; done) | (simp; omega) | (simp only [actOf, compAct]; omega))) (Ev.name rfl) (Bin.ne (EqD.bytes _ _))) (fun _ => (TrL.or (Tr.cmp (Ev.bytes _ _ _) (Ev.name rfl) (Bin.inBytes _ _)) (fun _ => (TrL.or (Tr.cmp (Ev.bytes _ _ _) (Ev.name rfl) (Bin.inBytes _ _)) (fun _ => (TrL.or (Tr.cmp (Ev.call (by trivial) (Ev.built (by assumption) rfl rfl (fun _ => (Rd.typ _)) (by first | assumption | decide | omega | (dsimp only; omega) | (simp; done) | (simp; omega) | (simp only [actOf, compAct]; omega)) rfl (by first | assumption | decide | omega | (dsimp only; omega) | (simp; done) | (simp; omega) | (simp only [actOf, compAct]; omega))) (EvAll.cons (Ev.int _ _ _) EvAll.nil) CallOk.bytes1) (Ev.name rfl) (Bin.inBytes _ _)) (fun _ => TrL.orN))))))))) (by rw [Bool.or_false]; exact q2)) ?_
    cases q3 : lawConn.contains f.1 with
    | true => exact .ret (.ifT (.cast (by exact Tr.cmp (Ev.name rfl) (Ev.tuple (EvAll.cons (Ev.bytes _ _ _) (EvAll.cons (Ev.bytes _ _ _) (EvAll.cons (Ev.bytes _ _ _) (EvAll.cons (Ev.bytes _ _ _) (EvAll.cons (Ev.bytes _ _ _) EvAll.nil)))))) (Bin.inTupBc _ _)) q3) retF)
    | false =>
    refine .ifSkip (.cast (by exact Tr.cmp (Ev.name rfl) (Ev.tuple (EvAll.cons (Ev.bytes _ _ _) (EvAll.cons (Ev.bytes _ _ _) (EvAll.cons (Ev.bytes _ _ _) (EvAll.cons (Ev.bytes _ _ _) (EvAll.cons (Ev.bytes _ _ _) EvAll.nil)))))) (Bin.inTupBc _ _)) q3) ?_
    cases q4 : lawBadTe f.1 f.2 with
    | true => exact .ret (.ifT (.cast (by exact Tr.bool (TrL.and (Tr.cmp (Ev.name rfl) (Ev.bytes _ _ _) (Bin.eq (EqD.bytes _ _))) (fun _ => (TrL.and (Tr.cmp (Ev.name rfl) (Ev.bytes _ _ _) (Bin.ne (EqD.bytes _ _))) (fun _ => TrL.andN))))) (by rw [Bool.and_true]; exact q4)) retF)
    | false =>
    refine .ifSkip (.cast (by exact Tr.bool (TrL.and (Tr.cmp (Ev.name rfl) (Ev.bytes _ _ _) (Bin.eq (EqD.bytes _ _))) (fun _ => (TrL.and (Tr.cmp (Ev.name rfl) (Ev.bytes _ _ _) (Bin.ne (EqD.bytes _ _))) (fun _ => TrL.andN))))) (by rw [Bool.and_true]; exact q4)) ?_
    have app : ∀ (bh : Bool), setOwn ([(p, valsD b.2)] ++ ζ) p (.lst (b.2.map .bytes ++ [.bytes f.1])) = (lpSt l p (bh, b.2 ++ [f.1])).own ++ ζ := fun bh => by
      show setOwn ((p, valsD b.2) :: ζ) p _ = (p, valsD (b.2 ++ [f.1])) :: ζ
      rw [setOwn_here]; unfold valsD; rw [List.map_append]; rfl
    cases q5 : !(cutOf f.1 none (some 1) == [58]) with
    | true =>
      refine .cons (.ifT (.cast (by exact Tr.cmp (Ev.slice2 (Ev.name rfl) Part.none (Part.lit _ _ _) (CutOk.bytes _ _ _ (by first | assumption | decide | omega | (dsimp only; omega) | (simp; done) | (simp; omega) | (simp only [actOf, compAct]; omega)) (fun _ => (fun _ => (fun _ => rfl))))) (Ev.bytes _ _ _) (Bin.ne (EqD.bytes _ _))) q5) (.cons (.assign (d := .bool true) (by exact Ev.bool _ _ _) (.inl rfl)) .nil)) ?_
      exact .cast (.forget (.cons (.expr (d := .none) (.append (l := b.2.map .bytes) (.name rfl) (by exact EvAll.cons (Ev.name rfl) EvAll.nil) lookup_here lookup_here (by simp; omega)) rfl) .nil) (l' := (lpSt l p (true, b.2)).loc) ⟨rfl, rfl, rfl, trivial⟩) (congrArg (fun w => Out.ok (Fin.next (Sg.mk (lpSt l p (true, b.2)).loc w))) (app true))
    | false =>
      cases q6 : b.1 || b.2.contains f.1 with
      | true => exact .ret (.ifF (.cast (by exact Tr.cmp (Ev.slice2 (Ev.name rfl) Part.none (Part.lit _ _ _) (CutOk.bytes _ _ _ (by first | assumption | decide | omega | (dsimp only; omega) | (simp; done) | (simp; omega) | (simp only [actOf, compAct]; omega)) (fun _ => (fun _ => (fun _ => rfl))))) (Ev.bytes _ _ _) (Bin.ne (EqD.bytes _ _))) q5) (.ret (.ifT (.cast (.bool (.or (by exact Tr.plain (Ev.name rfl)) fun _ => .or (.cmp (.name rfl) (.name rfl) (.inOwnB _ b.2 _ lookup_here)) fun _ => .orN)) (by rw [Bool.or_false]; exact q6)) retF)))
      | false =>
        refine .cons (.ifF (.cast (by exact Tr.cmp (Ev.slice2 (Ev.name rfl) Part.none (Part.lit _ _ _) (CutOk.bytes _ _ _ (by first | assumption | decide | omega | (dsimp only; omega) | (simp; done) | (simp; omega) | (simp only [actOf, compAct]; omega)) (fun _ => (fun _ => (fun _ => rfl))))) (Ev.bytes _ _ _) (Bin.ne (EqD.bytes _ _))) q5) (.cons (.ifF (.cast (.bool (.or (by exact Tr.plain (Ev.name rfl)) fun _ => .or (.cmp (.name rfl) (.name rfl) (.inOwnB _ b.2 _ lookup_here)) fun _ => .orN)) (by rw [Bool.or_false]; exact q6)) .nil) .nil)) ?_
        exact .cast (.forget (.cons (.expr (d := .none) (.append (l := b.2.map .bytes) (.name rfl) (by exact EvAll.cons (Ev.name rfl) EvAll.nil) lookup_here lookup_here (by simp; omega)) rfl) .nil) (l' := (lpSt l p (b.1, b.2)).loc) ⟨rfl, rfl, rfl, trivial⟩) (congrArg (fun w => Out.ok (Fin.next (Sg.mk (lpSt l p (b.1, b.2)).loc w))) (app b.1))
end


section
open PySem PySem.W PySem.Calls PyProof.Rows PySem.SeqAt
variable {c : Cx} {a : Act} {g : Heap} {s : Shared} {σ : Sg}

theorem ok_ldigits (R : Real c) (v : Bs) {x : PySem.Str} {n : Int} (hd : Dec v x n) (hn : 1 ≤ a.n) : CallOk c a σ (.fn (fd c 188)) [.bytes v] (.ok (.int n, σ.own)) := by
  refine call_pure (fn_law_digits R) (n := 0) (r := .ok (.int n)) rfl hn fun A m L fa F g0 s0 hm => ?_
  exact Body.ofR (ω := []) (.retE (.call (f := .typ "int") trivial (.built R rfl rfl (fun _ => .typ _) (by decide) rfl (by decide)) (.cons (.decode (.name rfl) (by exact EvAll.cons (Ev.str _ _ _) EvAll.nil) hd) .nil) (.intStr x n hd.num hd.len))) (by simp)

noncomputable def digs : Bs := [48, 49, 50, 51, 52, 53, 54, 55, 56, 57]
noncomputable def badDig (v : Bs) : Bool := (v == []) || !(stripB v digs == [])
noncomputable def sameDigs : List Bs → Bool
  | [] => true
  | t :: r => ((t :: r).filter fun v => !(digitsOf v == digitsOf t)).isEmpty
noncomputable def lawLens (l : List Fld) : Bool := if (valuesOf l nCL).any badDig then false else sameDigs (valuesOf l nCL)
/-- each good length is one that is known -/
noncomputable def LensOk (l : List Fld) : Prop := ∀ v ∈ valuesOf l nCL, badDig v = false → ∃ x, Dec v x (digitsOf v)

theorem Ev.byts {x : PySem.Str} {p : Pos} {iter : Expr} {ifs : List Expr} {elt : Expr} {scope : Scope} {pos : Pos} {l : List Bs} {cl : List (PySem.Str × Addr)} {lc : List (PySem.Str × D)} (P : Bs → Bool) (el : Bs → D) (h : Ev c a σ iter (.ok (valsD l, σ.own))) (cg : Caught a σ.loc scope cl lc) (hz : l.length ≤ 1000) (hx : (relabel scope a.env).names.lookup x = some NameKind.local) (nx : lc.lookup x = Option.none)
    (hT : ∀ C g0 s0, ∀ f ∈ l, ∀ ζ, Tst c (compAct a scope cl C g0 s0 []) ⟨(x, .bytes f) :: lc, ζ⟩ ifs (.ok (P f, ζ)))
    (hE : ∀ C g0 s0, ∀ f ∈ l, P f = true → ∀ ζ, Ev c (compAct a scope cl C g0 s0 []) ⟨(x, .bytes f) :: lc, ζ⟩ elt (.ok (el f, ζ)))
    (hs : ∀ x, foldedSetIterable iter a.env x = pure x := by intro _; rfl) : Ev c a σ (.ListComp elt [⟨.Name x p, iter, ifs, 0⟩] scope pos) (.ok (.lst ((l.filter P).map el), σ.own)) :=
  .compV (ωo := []) h (.lst _) cg (by simpa using hz) (fun C g0 s0 => .byts P el l (.inl hx) nx (hT C g0 s0) (hE C g0 s0)) hs
theorem sameDigs_cons (t : Bs) (r : List Bs) : sameDigs (t :: r) = (((t :: r).filter fun v => !(digitsOf v == digitsOf t)).map D.bytes).isEmpty := by
  show ((t :: r).filter fun v => !(digitsOf v == digitsOf t)).isEmpty = _
  generalize (t :: r).filter (fun v => !(digitsOf v == digitsOf t)) = w
  cases w <;> rfl

set_option maxHeartbeats 2000000 in
theorem ok_llens (R : Real c) (l : List Fld) (hz : Sm l) (hL : LensOk l) (hn : 2 ≤ a.n) : CallOk c a σ (.fn (fd c 193)) [fldsD l] (.ok (.bool (lawLens l), σ.own)) := by
  refine call_pure (fn_law_lengths R) (n := 1) (r := .ok (.bool (lawLens l))) rfl hn fun A m L fa F g0 s0 hm => ?_
  have hm1 : 1 ≤ m := hm
  obtain ⟨hv1, hv2⟩ := valuesOf_small hz nCL
  have hl := hz.len
  refine Body.ofR (ω := []) (.asgn (d := valsD (valuesOf l nCL)) (.cast (.compF (fun f => f.1 == nCL) (fun f => .bytes f.2) (.name rfl) (.none rfl rfl rfl rfl) (by omega) rfl rfl rfl rfl (fun C g0 s0 f _ ζ => .one ?_) (fun C g0 s0 f _ _ ζ => ?_)) ?_) (.inr ⟨rfl, rfl, _, rfl⟩) ?_) (by simp)
  · exact Tr.cmp (Ev.name rfl) (Ev.bytes _ _ _) (Bin.eq (EqD.bytes _ _))
  · exact Ev.name rfl
  · unfold valsD valuesOf; rw [List.map_map]; rfl
  unfold LensOk at hL
  unfold lawLens
  generalize valuesOf l nCL = vs at hv1 hv2 hL ⊢
  cases q1 : vs.any badDig with
  | true =>
    refine .ret (.ifT (.cast (.neNil (.byts badDig .bytes (.name rfl) (.none rfl rfl rfl rfl) (by omega) rfl rfl (fun C g0 s0 f hf ζ => .one ?_) fun C g0 s0 f _ _ ζ => ?_)) (by rw [filter_some]; exact q1)) (.retE (.bool _ _ _)))
    · have := hv2 f hf
      exact .cast (by exact Tr.bool (TrL.or (Tr.cmp (Ev.name rfl) (Ev.bytes _ _ _) (Bin.eq (EqD.bytes _ _))) (fun _ => (TrL.or (Tr.cmp (Ev.strip (Ev.name rfl) (EvAll.cons (Ev.bytes _ _ _) EvAll.nil) (by first | assumption | decide | omega | (dsimp only; omega) | (simp; done) | (simp; omega) | (simp only [actOf, compAct]; omega))) (Ev.bytes _ _ _) (Bin.ne (EqD.bytes _ _))) (fun _ => TrL.orN))))) (by rw [Bool.or_false]; rfl)
    · exact Ev.name rfl
  | false =>
    refine .ifSkip (.cast (.neNil (.byts badDig .bytes (.name rfl) (.none rfl rfl rfl rfl) (by omega) rfl rfl (fun C g0 s0 f hf ζ => .one ?_) fun C g0 s0 f _ _ ζ => ?_)) (by rw [filter_some]; exact q1)) ?_
    · have := hv2 f hf
      exact .cast (by exact Tr.bool (TrL.or (Tr.cmp (Ev.name rfl) (Ev.bytes _ _ _) (Bin.eq (EqD.bytes _ _))) (fun _ => (TrL.or (Tr.cmp (Ev.strip (Ev.name rfl) (EvAll.cons (Ev.bytes _ _ _) EvAll.nil) (by first | assumption | decide | omega | (dsimp only; omega) | (simp; done) | (simp; omega) | (simp only [actOf, compAct]; omega))) (Ev.bytes _ _ _) (Bin.ne (EqD.bytes _ _))) (fun _ => TrL.orN))))) (by rw [Bool.or_false]; rfl)
    · exact Ev.name rfl
    rw [List.any_eq_false] at q1
    have dec : ∀ v ∈ vs, ∃ x, Dec v x (digitsOf v) := fun v hv => hL v hv (by simpa using q1 v hv)
    cases vs with
    | nil => exact .retE (.cast (.eqNil (l := []) (.byts (l := []) (fun _ => true) .bytes (.name rfl) (.of [("told", _, _)] rfl ⟨rfl, rfl, .inl rfl, .inl rfl, trivial⟩ rfl rfl rfl) (by simp) rfl rfl (fun C g0 s0 f hf ζ => by cases hf) fun C g0 s0 f hf _ ζ => by cases hf)) rfl)
    | cons t r =>
      refine .retE (.cast (.eqNil (.byts (fun v => !(digitsOf v == digitsOf t)) .bytes (.name rfl) (.of [("told", _, _)] rfl ⟨rfl, rfl, .inl rfl, .inl rfl, trivial⟩ rfl rfl rfl) (by omega) rfl rfl (fun C g0 s0 f hf ζ => .one ?_) fun C g0 s0 f hf _ ζ => ?_)) (congrArg D.bool (sameDigs_cons t r).symm))
      · obtain ⟨x, dx⟩ := dec f hf
        obtain ⟨y, dy⟩ := dec t (.head _)
        exact .cmp (x := .int (digitsOf f)) (y := .int (digitsOf t)) (.callFn R (by exact EvAll.cons (Ev.name rfl) EvAll.nil) (ok_ldigits R f dx hm1) rfl) (.callFn R (.cons (d := .bytes t) (by exact Ev.sub (Ev.name rfl) (Ev.int _ _ _) (Sub.lst (by first | assumption | decide | omega | (dsimp only; omega) | (simp; done) | (simp; omega) | (simp only [actOf, compAct]; omega)) (by first | assumption | decide | omega | (dsimp only; omega) | (simp; done) | (simp; omega) | (simp only [actOf, compAct]; omega)) rfl)) .nil) (ok_ldigits R t dy hm1) rfl) (by exact Bin.ne (EqD.int _ _))
      · exact Ev.name rfl
end


section
open PySem PySem.W PySem.Calls PyProof.Rows PySem.SeqAt
variable {c : Cx} {a : Act} {g : Heap} {s : Shared} {σ : Sg}

noncomputable abbrev fB (f : Fld) : Bs × D := (f.1, D.bytes f.2)
noncomputable def storeF (t : List Fld) (k v : Bs) : List Fld := if t.any (fun f => f.1 = k) then t.map (fun f => if f.1 = k then (f.1, v) else f) else t ++ [(k, v)]
noncomputable def tellStep (t : List Fld) (f : Fld) : List Fld := if cutOf f.1 none (some 1) == [58] then storeF t f.1 f.2 else t
noncomputable def tellOf (l : List Fld) : List Fld := l.foldl tellStep []
theorem stored_map (t : List Fld) (k v : Bs) : storedD (t.map fB) k (.bytes v) = (storeF t k v).map fB := by
  unfold storedD storeF
  have e : (t.map fB).any (fun kv => kv.1 = k) = t.any (fun f => f.1 = k) := by rw [List.any_map]; rfl
  rw [e]
  split
  · rw [List.map_map, List.map_map]
    refine List.map_congr_left fun f _ => ?_
    simp only [Function.comp]
    split <;> rfl
  · simp
theorem store_len (t : List Fld) (k v : Bs) : (storeF t k v).length ≤ t.length + 1 := by
  unfold storeF; split <;> simp
theorem store_sm {t : List Fld} {f : Fld} (P : Bs → Prop) (Q : Bs → Prop) (h1 : ∀ f ∈ t, P f.1 ∧ Q f.2) (h2 : P f.1 ∧ Q f.2) : ∀ x ∈ storeF t f.1 f.2, P x.1 ∧ Q x.2 := by
  unfold storeF
  split
  · intro x hx
    obtain ⟨y, hy, rfl⟩ := List.mem_map.mp hx
    split
    · exact ⟨(h1 y hy).1, h2.2⟩
    · exact h1 y hy
  · intro x hx
    rcases List.mem_append.mp hx with hx | hx
    · exact h1 x hx
    · rw [List.mem_singleton.mp hx]; exact h2
theorem tell_len : ∀ (l t : List Fld), (l.foldl tellStep t).length ≤ t.length + l.length
  | [], t => by simp
  | f :: r, t => by
    have := tell_len r (tellStep t f)
    have h : (tellStep t f).length ≤ t.length + 1 := by
      unfold tellStep; split
      · exact store_len _ _ _
      · omega
    simp only [List.foldl_cons, List.length_cons]; omega
theorem tell_all (P : Bs → Prop) (Q : Bs → Prop) : ∀ (l t : List Fld), (∀ f ∈ l, P f.1 ∧ Q f.2) → (∀ f ∈ t, P f.1 ∧ Q f.2) → ∀ f ∈ l.foldl tellStep t, P f.1 ∧ Q f.2
  | [], t, _, h => h
  | f :: r, t, h1, h2 => by
    refine tell_all P Q r (tellStep t f) (fun x hx => h1 x (.tail _ hx)) ?_
    unfold tellStep; split
    · exact store_sm P Q h2 (h1 f (.head _))
    · exact h2
theorem tell_sm {l : List Fld} (hz : Sm l) : Sm (tellOf l) := by
  have h := tell_all (fun x => x.length ≤ 50) (fun x => x.length ≤ 50) l [] (fun f hf => ⟨hz.name f hf, hz.val f hf⟩) (by simp)
  have hl := hz.len
  exact ⟨by have := tell_len l []; simp at this; unfold tellOf; omega, fun f hf => (h f hf).1, fun f hf => (h f hf).2⟩

theorem Iterable.keys (t : List Fld) : Iterable c (dctD t) ((t.map (·.1)).map .bytes) := by
  have := Iterable.dct (c := c) (t.map fB)
  rw [List.map_map] at this ⊢
  exact this
theorem Ev.keys {x : PySem.Str} {p : Pos} {iter : Expr} {ifs : List Expr} {elt : Expr} {scope : Scope} {pos : Pos} {t : List Fld} {cl : List (PySem.Str × Addr)} {lc : List (PySem.Str × D)} (P : Bs → Bool) (el : Bs → D) (h : Ev c a σ iter (.ok (dctD t, σ.own))) (cg : Caught a σ.loc scope cl lc) (hz : t.length ≤ 1000) (hx : (relabel scope a.env).names.lookup x = some NameKind.local) (nx : lc.lookup x = Option.none)
    (hT : ∀ C g0 s0, ∀ f ∈ t.map (·.1), ∀ ζ, Tst c (compAct a scope cl C g0 s0 []) ⟨(x, .bytes f) :: lc, ζ⟩ ifs (.ok (P f, ζ)))
    (hE : ∀ C g0 s0, ∀ f ∈ t.map (·.1), P f = true → ∀ ζ, Ev c (compAct a scope cl C g0 s0 []) ⟨(x, .bytes f) :: lc, ζ⟩ elt (.ok (el f, ζ)))
    (hs : ∀ x, foldedSetIterable iter a.env x = pure x := by intro _; rfl) : Ev c a σ (.ListComp elt [⟨.Name x p, iter, ifs, 0⟩] scope pos) (.ok (.lst (((t.map (·.1)).filter P).map el), σ.own)) :=
  .compV (ωo := []) h (.keys t) cg (by simpa using hz) (fun C g0 s0 => .byts P el _ (.inl hx) nx (hT C g0 s0) (hE C g0 s0)) hs

noncomputable def lawKnown : List Bs := [nMethod, nScheme, nPath, nAuth]
noncomputable def named2 (t l : List Fld) : List Bs := valuesOf l nHost ++ (match t.lookup nAuth with | some v => [v] | none => [])
noncomputable def badNamed2 (named hosts : List Bs) : Bool := match named with
  | [] => true
  | x :: r => decide ((1 : Int) < hosts.length) || (x :: r).any fun v => !(v == x) || v == []
noncomputable def isReqRest (t l : List Fld) (m s p : Bs) : Bool := if !lawLens l then false else if !(s == bHttps) then true else if badNamed2 (named2 t l) (valuesOf l nHost) then false else (cutOf p none (some 1) == [47]) || ((p == [42]) && (m == bOptions))
noncomputable def isReqWith (t l : List Fld) (m : Bs) : Bool :=
  if m == bConnect then !(t.lookup nScheme).isSome && (!(t.lookup nPath).isSome && !((t.lookup nAuth).getD [] == []))
  else match t.lookup nScheme with
    | none => false
    | some s => match t.lookup nPath with
      | none => false
      | some p => isReqRest t l m s p
noncomputable def isReq (l : List Fld) : Bool :=
  if !lawPlain l || ((tellOf l).map (·.1)).any fun n => !lawKnown.contains n then false else match (tellOf l).lookup nMethod with
    | none => false
    | some m => if m == [] then false else isReqWith (tellOf l) l m

@[reducible] noncomputable def irSt (l : List Fld) (p : Addr) (t : List Fld) : Sg := ⟨[("fields", fldsD l), ("told", .adr p)], [(p, dctD t)]⟩
theorem tell_loop {A : Around} {m : Nat} {L fa : Addr} {F : List Addr} {g0 : Heap} {s0 : Shared} (l : List Fld) (hz : Sm l) (p : Addr) {rest : List Stmt} {o : Out Fin} (h : Exs c (actOf (fd c 198) A m L fa F g0 s0 []) ⟨[("told", dctD (tellOf l)), ("fields", fldsD l)], []⟩ rest o) :
    Exs c (actOf (fd c 198) A m L fa F g0 s0 []) ⟨[("told", .adr p), ("fields", fldsD l)], [(p, .dct [])]⟩ (((bodyOf (fd c 198))[1]?.getD default) :: rest) o := by
  refine .cons (σ₁ := irSt l p (tellOf l)) (.cast (Ex.forT (irSt l p) fldD (fun t f => .go (tellStep t f)) (fun t f => [("value", .bytes f.2), ("name", .bytes f.1), ("fields", fldsD l), ("told", .adr p)])
    (fun t r => t.length + r.length ≤ 100 ∧ ∀ f ∈ r, f ∈ l) l [] (.name rfl) (.lst _) ⟨rfl, rfl, trivial⟩ ?_ ?_ (fun b f r ζ _ => .pair (.inl rfl) (.inl rfl)) ?_) (by rw [foldT_go]; rfl)) ?_
  · have := hz.len
    exact ⟨by simp; omega, fun f hf => hf⟩
  · rintro t f r b' ⟨h1, h2⟩ q
    cases q
    simp only [List.length_cons] at h1
    have h : (tellStep t f).length ≤ t.length + 1 := by
      unfold tellStep; split
      · exact store_len _ _ _
      · omega
    exact ⟨by omega, fun x hx => h2 x (.tail _ hx)⟩
  · rintro t f r ζ ⟨h1, h2⟩
    simp only [List.length_cons] at h1
    have h3 := hz.name f (h2 f (.head _))
    unfold tellStep
    cases q1 : cutOf f.1 none (some 1) == [58] with
    | true =>
      refine .one (.ifT (.cast (by exact Tr.cmp (Ev.slice2 (Ev.name rfl) Part.none (Part.lit _ _ _) (CutOk.bytes _ _ _ (by first | assumption | decide | omega | (dsimp only; omega) | (simp; done) | (simp; omega) | (simp only [actOf, compAct]; omega)) (fun _ => (fun _ => (fun _ => rfl))))) (Ev.bytes _ _ _) (Bin.eq (EqD.bytes _ _))) q1) (.cast (.forget (.one (.setDct (l := t.map fB) (.name rfl) (.name rfl) (.name rfl) lookup_here (by simp; omega))) (l' := (irSt l p t).loc) ⟨rfl, rfl, trivial⟩) ?_))
      refine congrArg (fun w => Out.ok (Fin.next (Sg.mk (irSt l p t).loc w))) ?_
      rw [stored_map]
      exact setOwn_here
    | false => exact .one (.ifF (.cast (by exact Tr.cmp (Ev.slice2 (Ev.name rfl) Part.none (Part.lit _ _ _) (CutOk.bytes _ _ _ (by first | assumption | decide | omega | (dsimp only; omega) | (simp; done) | (simp; omega) | (simp only [actOf, compAct]; omega)) (fun _ => (fun _ => (fun _ => rfl))))) (Ev.bytes _ _ _) (Bin.eq (EqD.bytes _ _))) q1) (.forget .nil ⟨rfl, rfl, trivial⟩))
  · refine .freeze (x := "told") (p := p) rfl lookup_here (by simp) .dct ?_
    rw [show delOwn (irSt l p (tellOf l)).own p = [] from delOwn_here]
    exact .from h ⟨rfl, rfl, trivial⟩

theorem Exs.compF {z : PySem.Str} {zp spos : Pos} {elt iter : Expr} {x y : PySem.Str} {p q r : Pos} {k : Nat} {ifs : List Expr} {scope : Scope} {pos : Pos} {cl : List (PySem.Str × Addr)} {lc : List (PySem.Str × D)} {l : List Fld} {rest : List Stmt} {o : Out Fin} (P : Fld → Bool) (el : Fld → D)
    (h : Ev c a σ iter (.ok (fldsD l, σ.own))) (cg : Caught a σ.loc scope cl lc) (hz : l.length ≤ 1000) (hx : (relabel scope a.env).names.lookup x = some NameKind.local) (hy : (relabel scope a.env).names.lookup y = some NameKind.local) (nx : lc.lookup x = Option.none) (ny : lc.lookup y = Option.none)
    (hT : ∀ C g0 s0, ∀ f ∈ l, ∀ ζ, Tst c (compAct a scope cl C g0 s0 []) ⟨(y, .bytes f.2) :: (x, .bytes f.1) :: lc, ζ⟩ ifs (.ok (P f, ζ)))
    (hE : ∀ C g0 s0, ∀ f ∈ l, P f = true → ∀ ζ, Ev c (compAct a scope cl C g0 s0 []) ⟨(y, .bytes f.2) :: (x, .bytes f.1) :: lc, ζ⟩ elt (.ok (el f, ζ)))
    (hst : Stores a z) (h2 : Exs c a ⟨(z, .lst ((l.filter P).map el)) :: σ.loc, σ.own⟩ rest o)
    (hsw : swapsWith (.ListComp elt [⟨.Tuple [.Name x p, .Name y q] k r, iter, ifs, 0⟩] scope pos) (some (.Name z zp)) spos.line a.env = pure true := by rfl)
    (hs : ∀ x, foldedSetIterable iter a.env x = pure x := by intro _; rfl) : Exs c a σ (.Assign [.Name z zp] (.ListComp elt [⟨.Tuple [.Name x p, .Name y q] k r, iter, ifs, 0⟩] scope pos) spos :: rest) o :=
  .cons (.assignCompP (ωo := []) h (.lst _) cg (by simpa using hz) (fun C g0 s0 => .flds P el l (.inl hx) (.inl hy) nx ny (hT C g0 s0) (hE C g0 s0)) hst hsw hs) h2
theorem lk_get {t : List Fld} {k : Bs} : (((t.map fun f => (f.1, D.bytes f.2)).lookup k).getD (.bytes [])) = .bytes ((t.lookup k).getD []) := by rw [dlook]; cases t.lookup k <;> rfl
theorem named2_small {t l : List Fld} (ht : Sm t) (hz : Sm l) : (named2 t l).length ≤ 100 ∧ ∀ v ∈ named2 t l, v.length ≤ 50 := by
  have hv := valuesOf_small hz nHost
  have hh := hv.1
  unfold named2
  cases q : t.lookup nAuth with
  | none => exact ⟨by simp; omega, fun v h => hv.2 v (by simpa using h)⟩
  | some x =>
    refine ⟨by simp; omega, fun v h => ?_⟩
    rcases List.mem_append.mp h with h | h
    · exact hv.2 v h
    · rw [List.mem_singleton.mp h]; exact ht.val _ (lookup_fld q)

set_option maxHeartbeats 4000000 in
theorem ok_lisreq (R : Real c) (l : List Fld) (hz : Sm l) (hL : LensOk l) (hn : 3 ≤ a.n) : CallOk c a σ (.fn (fd c 198)) [fldsD l] (.ok (.bool (isReq l), σ.own)) := by
  refine call_pure (fn_law_is_request R) (n := 2) (r := .ok (.bool (isReq l))) rfl hn fun A m L fa F g0 s0 hm => ?_
  have hm2 : 2 ≤ m := hm
  have hm1 : 1 ≤ m := by omega
  have hts := tell_sm hz
  have htl := hts.len
  have hl := hz.len
  refine Body.ofR (ω := []) (.assignN .dict (.inl rfl) fun p => tell_loop l hz p (.asgn (d := .tup (lawKnown.map .bytes)) (.cast (by exact Ev.tuple (EvAll.cons (Ev.bytes _ _ _) (EvAll.cons (Ev.bytes _ _ _) (EvAll.cons (Ev.bytes _ _ _) (EvAll.cons (Ev.bytes _ _ _) EvAll.nil))))) (by rfl)) (.inr ⟨rfl, rfl, _, rfl⟩) ?_)) (by simp)
  unfold isReq
  generalize tellOf l = t at hts htl ⊢
  cases q1 : !lawPlain l || (t.map (·.1)).any fun n => !lawKnown.contains n with
  | true =>
    refine .ret (.ifT (.cast (.bool (.or (.not (.plain (.callFn R (by exact EvAll.cons (Ev.name rfl) EvAll.nil) (ok_lplain R l hz hm1) rfl))) fun _ => .or (.neNil (.keys (fun n => !lawKnown.contains n) .bytes (.name rfl) (.of [("known", _, _)] rfl ⟨rfl, rfl, .inl rfl, .inl rfl, trivial⟩ rfl rfl rfl) (by omega) rfl rfl (fun C g0 s0 f hf ζ => .one ?_) fun C g0 s0 f hf _ ζ => ?_)) fun _ => .orN)) (by rw [filter_some, Bool.or_false]; exact q1)) (.retE (.bool _ _ _)))
    · exact .cmp (.name rfl) (.name rfl) (.notInTupB _ lawKnown)
    · exact Ev.name rfl
  | false =>
    refine .ifSkip (.cast (.bool (.or (.not (.plain (.callFn R (by exact EvAll.cons (Ev.name rfl) EvAll.nil) (ok_lplain R l hz hm1) rfl))) fun _ => .or (.neNil (.keys (fun n => !lawKnown.contains n) .bytes (.name rfl) (.of [("known", _, _)] rfl ⟨rfl, rfl, .inl rfl, .inl rfl, trivial⟩ rfl rfl rfl) (by omega) rfl rfl (fun C g0 s0 f hf ζ => .one ?_) fun C g0 s0 f hf _ ζ => ?_)) fun _ => .orN)) (by rw [filter_some, Bool.or_false]; exact q1)) ?_
    · exact .cmp (.name rfl) (.name rfl) (.notInTupB _ lawKnown)
    · exact Ev.name rfl
    show Exs _ _ _ _ (RetO (.ok (.bool (match t.lookup nMethod with | none => false | some m => if m == [] then false else isReqWith t l m))) [])
    cases q2 : t.lookup nMethod with
    | none => exact .ret (.ifT (.cast (.cmp (x := .bytes []) (.cast (by exact Ev.get2 (Ev.name rfl) (EvAll.cons (Ev.bytes _ _ _) (EvAll.cons (Ev.bytes _ _ _) EvAll.nil))) (lk_get.trans (congrArg (fun o : Option Bs => D.bytes (o.getD [])) q2))) (by exact Ev.bytes _ _ _) (by exact Bin.eq (EqD.bytes _ _))) (by rfl)) (.retE (.bool _ _ _)))
    | some x =>
      have k1 := lk_some q2
      cases q3 : x == [] with
      | true => exact .ret (.ifT (.cast (.cmp (x := .bytes x) (.cast (by exact Ev.get2 (Ev.name rfl) (EvAll.cons (Ev.bytes _ _ _) (EvAll.cons (Ev.bytes _ _ _) EvAll.nil))) (lk_get.trans (congrArg (fun o : Option Bs => D.bytes (o.getD [])) q2))) (by exact Ev.bytes _ _ _) (by exact Bin.eq (EqD.bytes _ _))) q3) (.retE (.cast (.bool _ _ _) (by show D.bool false = D.bool (if x == [] then false else _); rw [q3]; rfl))))
      | false =>
        refine .ifSkip (.cast (.cmp (x := .bytes x) (.cast (by exact Ev.get2 (Ev.name rfl) (EvAll.cons (Ev.bytes _ _ _) (EvAll.cons (Ev.bytes _ _ _) EvAll.nil))) (lk_get.trans (congrArg (fun o : Option Bs => D.bytes (o.getD [])) q2))) (by exact Ev.bytes _ _ _) (by exact Bin.eq (EqD.bytes _ _))) q3) ?_
        show Exs _ _ _ _ (RetO (.ok (.bool (if x == [] then false else isReqWith t l x))) [])
        rw [q3]
        show Exs _ _ _ _ (RetO (.ok (.bool (isReqWith t l x))) [])
        unfold isReqWith
        cases q4 : x == bConnect with
        | true => exact .ret (.ifT (.cast (by exact Tr.cmp (Ev.sub (Ev.name rfl) (Ev.bytes _ _ _) (Sub.dct (by assumption))) (Ev.bytes _ _ _) (Bin.eq (EqD.bytes _ _))) q4) (.retE (.cast (.bool_ (.and (by exact Ev.cmp (Ev.bytes _ _ _) (Ev.name rfl) (Bin.notInDct _ _)) fun _ => .and (by exact Ev.cmp (Ev.bytes _ _ _) (Ev.name rfl) (Bin.notInDct _ _)) fun _ => .one (.cmp (x := .bytes ((t.lookup nAuth).getD [])) (.cast (by exact Ev.get2 (Ev.name rfl) (EvAll.cons (Ev.bytes _ _ _) (EvAll.cons (Ev.bytes _ _ _) EvAll.nil))) lk_get) (by exact Ev.bytes _ _ _) (by exact Bin.ne (EqD.bytes _ _))))) (congrArg D.bool (by rw [dsome, dsome]; rfl)))))
        | false =>
        refine .ifSkip (.cast (by exact Tr.cmp (Ev.sub (Ev.name rfl) (Ev.bytes _ _ _) (Sub.dct (by assumption))) (Ev.bytes _ _ _) (Bin.eq (EqD.bytes _ _))) q4) ?_
        cases q5 : t.lookup nScheme with
        | none => exact .ret (.ifT (.bool (.stop (ω := []) (.cast (by exact Tr.cmp (Ev.bytes _ _ _) (Ev.name rfl) (Bin.notInDct _ _)) (congrArg (fun o => !o.isSome) (lk_none q5))) (.inr ⟨rfl, rfl⟩))) (.retE (.bool _ _ _)))
        | some sc =>
        have k2 := lk_some q5
        have t2 : (!((t.map fun f => (f.1, D.bytes f.2)).lookup nScheme).isSome) = false := by rw [k2]; rfl
        cases q6 : t.lookup nPath with
        | none =>
          have t3 : (!((t.map fun f => (f.1, D.bytes f.2)).lookup nPath).isSome) = true := by rw [lk_none q6]; rfl
          exact .ret (.ifT (.bool (.go (ω := []) (.cast (by exact Tr.cmp (Ev.bytes _ _ _) (Ev.name rfl) (Bin.notInDct _ _)) t2) (.inr ⟨rfl, rfl⟩) (.stop (ω := []) (.cast (by exact Tr.cmp (Ev.bytes _ _ _) (Ev.name rfl) (Bin.notInDct _ _)) t3) (.inr ⟨rfl, rfl⟩)))) (.retE (.bool _ _ _)))
        | some pt =>
        have k3 := lk_some q6
        have z3 : pt.length ≤ 50 := hts.val _ (lookup_fld q6)
        have t3 : (!((t.map fun f => (f.1, D.bytes f.2)).lookup nPath).isSome) = false := by rw [k3]; rfl
        show Exs _ _ _ _ (RetO (.ok (.bool (isReqRest t l x sc pt))) [])
        unfold isReqRest
        cases q7 : !lawLens l with
        | true => exact .ret (.ifT (.bool (.go (ω := []) (.cast (by exact Tr.cmp (Ev.bytes _ _ _) (Ev.name rfl) (Bin.notInDct _ _)) t2) (.inr ⟨rfl, rfl⟩) (.go (ω := []) (.cast (by exact Tr.cmp (Ev.bytes _ _ _) (Ev.name rfl) (Bin.notInDct _ _)) t3) (.inr ⟨rfl, rfl⟩) (.stop (ω := []) (.cast (.not (.plain (.callFn R (by exact EvAll.cons (Ev.name rfl) EvAll.nil) (ok_llens R l hz hL hm2) rfl))) q7) (.inr ⟨rfl, rfl⟩))))) (.retE (.bool _ _ _)))
        | false =>
        refine .ifSkip (.bool (.go (ω := []) (.cast (by exact Tr.cmp (Ev.bytes _ _ _) (Ev.name rfl) (Bin.notInDct _ _)) t2) (.inr ⟨rfl, rfl⟩) (.go (ω := []) (.cast (by exact Tr.cmp (Ev.bytes _ _ _) (Ev.name rfl) (Bin.notInDct _ _)) t3) (.inr ⟨rfl, rfl⟩) (.go (ω := []) (.cast (.not (.plain (.callFn R (by exact EvAll.cons (Ev.name rfl) EvAll.nil) (ok_llens R l hz hL hm2) rfl))) q7) (.inr ⟨rfl, rfl⟩) .orN)))) ?_
        cases q8 : !(sc == bHttps) with
        | true => exact .ret (.ifT (.cast (by exact Tr.cmp (Ev.sub (Ev.name rfl) (Ev.bytes _ _ _) (Sub.dct (by assumption))) (Ev.bytes _ _ _) (Bin.ne (EqD.bytes _ _))) q8) (.retE (.bool _ _ _)))
        | false =>
        refine .ifSkip (.cast (by exact Tr.cmp (Ev.sub (Ev.name rfl) (Ev.bytes _ _ _) (Sub.dct (by assumption))) (Ev.bytes _ _ _) (Bin.ne (EqD.bytes _ _))) q8) ?_
        refine .compF (fun f => f.1 == nHost) (fun f => .bytes f.2) (.name rfl) (.none rfl rfl rfl rfl) (by omega) rfl rfl rfl rfl (fun C g0 s0 f _ ζ => .one ?_) (fun C g0 s0 f _ _ ζ => ?_) (.inl rfl) ?_
        · exact Tr.cmp (Ev.name rfl) (Ev.bytes _ _ _) (Bin.eq (EqD.bytes _ _))
        · exact Ev.name rfl
        rw [show (l.filter fun f => f.1 == nHost).map (fun f => D.bytes f.2) = (valuesOf l nHost).map .bytes from by unfold valuesOf; rw [List.map_map]; rfl]
        obtain ⟨hm1', hm2'⟩ := named2_small hts hz
        have hvs := (valuesOf_small hz nHost).1
        refine .asgn (d := valsD (named2 t l)) ?_ (.inr ⟨rfl, rfl, _, rfl⟩) ?_
        · unfold named2 valsD
          cases q : t.lookup nAuth with
          | none => exact .bin (x := .lst ((valuesOf l nHost).map .bytes)) (y := .lst []) (.name rfl) (.ifF (ω := []) (.cast (by exact Tr.cmp (Ev.bytes _ _ _) (Ev.name rfl) (Bin.inDct _ _)) (congrArg Option.isSome (lk_none q))) (by exact Ev.list EvAll.nil)) (.cast (.addList (by simp; omega)) (by simp))
          | some v => exact .bin (x := .lst ((valuesOf l nHost).map .bytes)) (y := .lst [.bytes v]) (.name rfl) (.ifT (ω := []) (.cast (by exact Tr.cmp (Ev.bytes _ _ _) (Ev.name rfl) (Bin.inDct _ _)) (congrArg Option.isSome (lk_some q))) (.list (.cons (.sub (.name rfl) (.bytes _ _ _) (.dct (lk_some q))) .nil) (by simp))) (.cast (.addList (by simp; omega)) (by simp))
        · refine .rcast (.ifR (b := badNamed2 (named2 t l) (valuesOf l nHost)) (r1 := .ok (.bool false)) (r2 := .ok (.bool ((cutOf pt none (some 1) == [47]) || ((pt == [42]) && (x == bOptions))))) ?_ (fun _ => .retE (.bool _ _ _)) (fun _ => .retE (.cast (by exact Ev.bool_ (EvL.or (Ev.cmp (Ev.slice2 (Ev.sub (Ev.name rfl) (Ev.bytes _ _ _) (Sub.dct (by assumption))) Part.none (Part.lit _ _ _) (CutOk.bytes _ _ _ (by first | assumption | decide | omega | (dsimp only; omega) | (simp; done) | (simp; omega) | (simp only [actOf, compAct]; omega)) (fun _ => (fun _ => (fun _ => rfl))))) (Ev.bytes _ _ _) (Bin.eq (EqD.bytes _ _))) (fun _ => (EvL.one (Ev.bool_ (EvL.and (Ev.cmp (Ev.sub (Ev.name rfl) (Ev.bytes _ _ _) (Sub.dct (by assumption))) (Ev.bytes _ _ _) (Bin.eq (EqD.bytes _ _))) (fun _ => (EvL.one (Ev.cmp (Ev.sub (Ev.name rfl) (Ev.bytes _ _ _) (Sub.dct (by assumption))) (Ev.bytes _ _ _) (Bin.eq (EqD.bytes _ _))))))))))) (by rfl)))) ?_
          · generalize named2 t l = nm at hm1' hm2' ⊢
            cases nm with
            | nil => exact .bool (.stop (ω := []) (.eqNil (l := []) (.name rfl)) (.inr ⟨rfl, rfl⟩))
            | cons y r =>
              refine .cast (.bool (.or (.eqNil (l := (y :: r).map .bytes) (.name rfl)) fun _ => .or (.cast (b' := decide ((1 : Int) < (valuesOf l nHost).length)) (by exact Tr.cmp (Ev.len2 (by assumption) (EvAll.cons (Ev.name rfl) EvAll.nil) (LenOk.lst _ (by first | assumption | decide | omega | (dsimp only; omega) | (simp; done) | (simp; omega) | (simp only [actOf, compAct]; omega))) rfl) (Ev.int _ _ _) (Bin.gt _ _)) (by rw [List.length_map])) fun _ => .or (.neNil (.byts (l := y :: r) (fun v => !(v == y) || v == []) .bytes (.name rfl) (.of [("named", _, _)] rfl ⟨rfl, rfl, .inl rfl, .inl rfl, trivial⟩ rfl rfl rfl) (by omega) rfl rfl (fun C g0 s0 f hf ζ => .one ?_) fun C g0 s0 f hf _ ζ => ?_)) fun _ => .orN)) ?_
              · exact .cast (by exact Tr.bool (TrL.or (Tr.cmp (Ev.name rfl) (Ev.sub (Ev.name rfl) (Ev.int _ _ _) (Sub.lst (by first | assumption | decide | omega | (dsimp only; omega) | (simp; done) | (simp; omega) | (simp only [actOf, compAct]; omega)) (by first | assumption | decide | omega | (dsimp only; omega) | (simp; done) | (simp; omega) | (simp only [actOf, compAct]; omega)) rfl)) (Bin.ne (EqD.bytes _ _))) (fun _ => (TrL.or (Tr.cmp (Ev.name rfl) (Ev.bytes _ _ _) (Bin.eq (EqD.bytes _ _))) (fun _ => TrL.orN))))) (by rw [Bool.or_false])
              · exact Ev.name rfl
              · rw [filter_some, Bool.or_false]; rfl
          · show _ = Out.ok (D.bool (if badNamed2 (named2 t l) (valuesOf l nHost) then false else _))
            cases badNamed2 (named2 t l) (valuesOf l nHost) <;> rfl
end


section
open PySem PySem.W PySem.Calls PyProof.Rows PySem.SeqAt
variable {c : Cx} {a : Act} {g : Heap} {s : Shared} {σ : Sg}

/-! dicts compared -/
noncomputable def hitsB (t2 : List Fld) : List Fld → Bool
  | [] => true
  | (k, v) :: r => match t2.lookup k with
    | none => false
    | some y => (v == y) && hitsB t2 r
noncomputable def eqDict (t1 t2 : List Fld) : Bool := (t1.length == t2.length) && hitsB t2 t1
theorem hits_ok {A : Around} {kb : List (Bs × Value)} {t2 : List Fld} (r2 : RdKv c g kb (t2.map fB)) : ∀ {ka : List (Bs × Value)} {t1 : List Fld}, RdKv c g ka (t1.map fB) → KeqHits A s kb ka (hitsB t2 t1)
  | ka, [], h => by cases h; exact .nil
  | ka, (k, v) :: r, h => by
    · obtain ⟨_, _, rfl, h1, h2⟩ := h.inv
      have hat := r2.at k
      rw [dlook] at hat
      unfold hitsB
      obtain ⟨_, rfl⟩ := h1.inv
      cases q : t2.lookup k with
      | none => rw [q] at hat; exact .miss hat
      | some y =>
        rw [q] at hat
        obtain ⟨w, hw, hr⟩ := hat
        obtain ⟨_, rfl⟩ := hr.inv
        exact .hit hw (EqAt.bytes_bytes _ _ _ _) (hits_ok r2 h2)
theorem Bin.eqDct (t1 t2 : List Fld) : Bin c a σ (compareOp .Eq) (dctD t1) (dctD t2) (.bool (eqDict t1 t2)) := .mk fun g s v w H hv hw => by
  generalize h1 : dctD t1 = d1 at hv
  generalize h2 : dctD t2 = d2 at hw
  unfold dctD at h1 h2
  cases hv <;> cases h1
  rename_i x1 k1 hd1 n1 r1
  cases hw <;> cases h2
  rename_i x2 k2 hd2 n2 r2
  have hu := H.room
  refine keq_eq n1 n2 (hd1.keep H.stays) (hd2.keep H.stays) (by omega) (fun _ => hits_ok r2 r1) ⟨g, Mv.refl H.stays, ?_⟩
  have e1 := r1.length
  have e2 := r2.length
  rw [List.length_map] at e1 e2
  rw [e1, e2]
  exact .bool _

theorem DTurns.tell {b : Act} {lc : List (PySem.Str × D)} {x y : PySem.Str} {p q r : Pos} {k : Nat} {ifs : List Expr} {kx vx : Expr} (hx : Stores b x) (hy : Stores b y) (nx : lc.lookup x = none) (ny : lc.lookup y = none) : ∀ (l t : List Fld),
    (∀ f ∈ l, ∀ ζ, Tst c b ⟨(y, .bytes f.2) :: (x, .bytes f.1) :: lc, ζ⟩ ifs (.ok (cutOf f.1 none (some 1) == [58], ζ))) → (∀ f ∈ l, ∀ ζ, Ev c b ⟨(y, .bytes f.2) :: (x, .bytes f.1) :: lc, ζ⟩ kx (.ok (.bytes f.1, ζ))) → (∀ f ∈ l, ∀ ζ, Ev c b ⟨(y, .bytes f.2) :: (x, .bytes f.1) :: lc, ζ⟩ vx (.ok (.bytes f.2, ζ))) →
    DTurns c b lc (.Tuple [.Name x p, .Name y q] k r) ifs kx vx (t.map fB) (l.map fldD) ((l.foldl tellStep t).map fB)
  | [], t, _, _, _ => .nil
  | f :: l, t, hT, hK, hV => by
    have hl : ∀ z d, lc.lookup z = some d → ((y, D.bytes f.2) :: (x, .bytes f.1) :: lc).lookup z = some d := fun z e h => by
      rw [List.lookup_cons]
      cases q : z == y with
      | true => rw [eq_of_beq q, ny] at h; cases h
      | false =>
        dsimp only; rw [List.lookup_cons]
        cases q : z == x with
        | true => rw [eq_of_beq q, nx] at h; cases h
        | false => exact h
    have ih := DTurns.tell (p := p) (q := q) (r := r) (k := k) hx hy nx ny l (tellStep t f) (fun f hf => hT f (.tail _ hf)) (fun f hf => hK f (.tail _ hf)) (fun f hf => hV f (.tail _ hf))
    have h0 := hT f (.head _)
    cases q1 : cutOf f.1 none (some 1) == [58] with
    | false =>
      rw [q1] at h0
      rw [show tellStep t f = t from by unfold tellStep; rw [q1]; rfl] at ih
      rw [List.foldl_cons, show tellStep t f = t from by unfold tellStep; rw [q1]; rfl]
      exact .skip (fun ζ => .pair hx hy) hl h0 ih
    | true =>
      rw [q1] at h0
      have e : tellStep t f = storeF t f.1 f.2 := by unfold tellStep; rw [q1]; rfl
      rw [e] at ih
      rw [List.foldl_cons, e]
      rw [← stored_map] at ih
      exact .take (fun ζ => .pair hx hy) hl h0 (hK f (.head _)) (hV f (.head _)) ih

/-! what the drawn fields are -/
noncomputable def fOk (f : Fld) : Bool := decide (f.1.length ≤ 50) && decide (f.2.length ≤ 50) && (!(f.1 == nCL) || f.2 == [53] || f.2 == [48, 53] || badDig f.2)
theorem sm_of {l : List Fld} (h : ∀ f ∈ l, fOk f = true) (hl : l.length ≤ 50) : Sm l :=
  ⟨hl, fun f hf => by have := h f hf; unfold fOk at this; simp at this; exact this.1.1, fun f hf => by have := h f hf; unfold fOk at this; simp at this; exact this.1.2⟩
theorem lens_of {l : List Fld} (h : ∀ f ∈ l, fOk f = true) : LensOk l := by
  intro v hv hb
  unfold valuesOf at hv
  obtain ⟨f, hf, rfl⟩ := List.mem_map.mp hv
  obtain ⟨hf, hn⟩ := List.mem_filter.mp hf
  have := h f hf
  unfold fOk at this
  rw [hn, hb] at this
  simp only [Bool.and_eq_true, Bool.or_eq_true, Bool.not_true, Bool.false_eq_true, false_or, or_false, beq_iff_eq] at this
  rcases this.2 with e | e
  · rw [e]; exact ⟨_, dec_5⟩
  · rw [e]; exact ⟨_, dec_05⟩
theorem extra_fok : ∀ f ∈ extraL, fOk f = true := by decide +kernel
theorem extraAt_fok (i : Int) : fOk (extraAt i) = true := by
  unfold extraAt
  rw [List.getD_eq_getElem?_getD]
  cases q : extraL[i.toNat]? with
  | none => decide +kernel
  | some f => exact extra_fok f (List.mem_of_getElem? q)
theorem getD_fok {l : List Fld} (h : ∀ f ∈ l, fOk f = true) (i : Nat) : fOk (l.getD i ([], [])) = true := by
  rw [List.getD_eq_getElem?_getD]
  cases q : l[i]? with
  | none => decide +kernel
  | some f => exact h f (List.mem_of_getElem? q)
theorem cut_mem {α : Type} {l : List α} {lo hi : Option Int} {x : α} (h : x ∈ cutOf l lo hi) : x ∈ l := by unfold cutOf at h; exact List.mem_of_mem_drop (List.mem_of_mem_take h)
theorem blank_fok {f : Fld} (h : fOk f = true) : fOk (f.1, []) = true := by
  unfold fOk at h ⊢
  simp only [Bool.and_eq_true, decide_eq_true_eq] at h
  have : badDig [] = true := by decide +kernel
  simp [this, h.1.1]
theorem spoil_fok {l : List Fld} (h : ∀ f ∈ l, fOk f = true) (form at_ : Int) : ∀ f ∈ spoil form at_ l, fOk f = true := by
  intro f hf
  unfold spoil at hf
  split at hf
  · exact h f hf
  split at hf
  · rcases List.mem_append.mp hf with hf | hf <;> exact h f (cut_mem hf)
  split at hf
  · rcases List.mem_append.mp hf with hf | hf
    · exact h f hf
    · rw [List.mem_singleton.mp hf]; exact getD_fok h _
  split at hf
  · rcases List.mem_cons.mp hf with rfl | hf
    · exact getD_fok extra_fok 0
    · exact h f hf
  · rcases List.mem_append.mp hf with hf | hf
    · rcases List.mem_append.mp hf with hf | hf
      · exact h f (cut_mem hf)
      · rw [List.mem_singleton.mp hf]; exact blank_fok (getD_fok h _)
    · exact h f (cut_mem hf)
theorem spoil_len {l : List Fld} (form at_ : Int) : (spoil form at_ l).length ≤ 2 * l.length + 1 := by
  have e1 := cut_len l none (some at_)
  have e2 := cut_len l (some (at_ + 1)) none
  unfold spoil
  repeat' split
  all_goals simp
  all_goals omega
theorem spoiltV_facts {b : Bx} (hb : b.Ok) {l : List Fld} (h : ∀ f ∈ l, fOk f = true) (h0 : 0 < l.length) (hz : l.length ≤ 20) : (spoiltV b l).2.Ok ∧ (∀ f ∈ (spoiltV b l).1, fOk f = true) ∧ (spoiltV b l).1.length ≤ 50 := by
  have t1 := take_ok hb (many := 14) (by decide)
  have t2 := take_ok t1.1 (many := l.length) (by omega)
  have t3 := take_ok t2.1 (many := 2) (by decide)
  have t4 := take_ok t3.1 (many := 14) (by decide)
  have t5 := take_ok t4.1 (many := 14) (by decide)
  unfold spoiltV
  dsimp only
  split
  · exact ⟨t2.1, spoil_fok h _ _, by have := spoil_len (l := l) (takeV b 14).1 (takeV (takeV b 14).2 l.length).1; dsimp only; omega⟩
  split
  · refine ⟨t4.1, fun f hf => ?_, by simp; omega⟩
    rcases List.mem_append.mp hf with hf | hf
    · exact h f hf
    · rw [List.mem_singleton.mp hf]; exact extraAt_fok _
  · refine ⟨t5.1, fun f hf => ?_, by simp; omega⟩
    rcases List.mem_append.mp hf with hf | hf
    · exact h f hf
    · simp only [List.mem_cons, List.not_mem_nil, or_false] at hf
      rcases hf with rfl | rfl <;> exact extraAt_fok _
theorem request_fok (form : Int) : (∀ f ∈ requestV form, fOk f = true) ∧ 0 < (requestV form).length ∧ (requestV form).length ≤ 20 := by
  unfold requestV
  repeat' split
  all_goals exact ⟨by decide +kernel, by decide, by decide⟩

noncomputable def reqFit (l : List Fld) : Bool := match checkReq l with
  | none => !isReq l
  | some t => isReq l && eqDict t (tellOf l)
noncomputable def reqRight (b : Bx) : Bool × Bx := (reqFit (spoiltV (takeV b 4).2 (requestV (takeV b 4).1)).1, (spoiltV (takeV b 4).2 (requestV (takeV b 4).1)).2)

theorem Ev.callFnO {ad : Addr} {x : PySem.Str} {p pos : Pos} {e : Expr} {es : List Expr} {ds : List D} {ω₂ : Own} {o : Out (D × Own)} {cls : Value} {dd : Option Addr} {sl : Array (Option Value)} (R : Real c) (h : EvAll c a σ pos (e :: es) (.ok (ds, ω₂))) (h3 : CallOk c a ⟨σ.loc, ω₂⟩ (.fn (fd c ad)) ds o) (hx : a.env.kindOf x = some .globalImplicit)
    (hm : nsIn (K c) mainGlobals x = some (some (.ref ad)) := by rfl) (hl : (K c).lookup ad = some ⟨cls, dd, .func (fd c ad), sl⟩ := by rfl) (hd : (x == ("__debug__" : PySem.Str)) = false := by decide)
    (he : starEach (e :: es) a.env = (false, eval e a.env) :: starEach es a.env := by rfl) (hplain : (backTo pos (starEach es a.env)).any (·.1) = false := by rfl) : Ev c a σ (.Call (.Name x p) (e :: es) [] pos) o :=
  .call (f := .fn (fd c ad)) (ω₁ := σ.own) trivial (.fn R hm hl hx hd) h h3 he hplain
end


section
open PySem PySem.W PySem.Calls PyProof.Rows PySem.SeqAt
variable {c : Cx} {a : Act} {g : Heap} {s : Shared} {σ : Sg}

theorem Ev.own {e : Expr} {d w w0 : D} {p : Addr} {r : Own} (h : Ev c a σ e (.ok (d, setOwn σ.own p w))) (hown : σ.own = (p, w0) :: r) : Ev c a σ e (.ok (d, (p, w) :: r)) := by
  rw [hown, setOwn_here] at h; exact h
theorem look1 {p : Addr} {w : D} {r : Own} (hown : σ.own = (p, w) :: r) : σ.own.lookup p = some w := by rw [hown]; exact lookup_here
theorem Ev.callBox {ad : Addr} {x : PySem.Str} {q pos : Pos} {e : Expr} {es : List Expr} {ds : List D} {p : Addr} {w w0 d : D} {r : Own} {cls : Value} {dd : Option Addr} {sl : Array (Option Value)} (R : Real c) (h : EvAll c a σ pos (e :: es) (.ok (ds, (p, w0) :: r))) (h3 : CallOk c a ⟨σ.loc, (p, w0) :: r⟩ (.fn (fd c ad)) ds (.ok (d, setOwn ((p, w0) :: r) p w))) (hx : a.env.kindOf x = some .globalImplicit)
    (hm : nsIn (K c) mainGlobals x = some (some (.ref ad)) := by rfl) (hl : (K c).lookup ad = some ⟨cls, dd, .func (fd c ad), sl⟩ := by rfl) (hd : (x == ("__debug__" : PySem.Str)) = false := by decide)
    (he : starEach (e :: es) a.env = (false, eval e a.env) :: starEach es a.env := by rfl) (hplain : (backTo pos (starEach es a.env)).any (·.1) = false := by rfl) : Ev c a σ (.Call (.Name x q) (e :: es) [] pos) (.ok (d, (p, w) :: r)) := by
  rw [setOwn_here] at h3
  exact .callFnO R h h3 hx hm hl hd he hplain
/-- the dict of the fields with a colon -/
theorem Ev.tellC {p q r : Pos} {k : Nat} {iter kx vx test : Expr} {scope : Scope} {pos : Pos} {x y : PySem.Str} (l : List Fld) (h : Ev c a σ iter (.ok (fldsD l, σ.own))) (cg : Caught a σ.loc scope [] []) (hz : l.length ≤ 1000) (hx : (relabel scope a.env).names.lookup x = some NameKind.local) (hy : (relabel scope a.env).names.lookup y = some NameKind.local)
    (hT : ∀ C g0 s0, ∀ f ∈ l, ∀ ζ, Tr c (compAct a scope [] C g0 s0 []) ⟨[(y, .bytes f.2), (x, .bytes f.1)], ζ⟩ test (.ok (cutOf f.1 Option.none (some 1) == [58], ζ))) (hK : ∀ C g0 s0, ∀ f ∈ l, ∀ ζ, Ev c (compAct a scope [] C g0 s0 []) ⟨[(y, .bytes f.2), (x, .bytes f.1)], ζ⟩ kx (.ok (.bytes f.1, ζ))) (hV : ∀ C g0 s0, ∀ f ∈ l, ∀ ζ, Ev c (compAct a scope [] C g0 s0 []) ⟨[(y, .bytes f.2), (x, .bytes f.1)], ζ⟩ vx (.ok (.bytes f.2, ζ)))
    (hs : ∀ x, foldedSetIterable iter a.env x = pure x := by intro _; rfl) :
    Ev c a σ (.DictComp kx vx [⟨.Tuple [.Name x p, .Name y q] k r, iter, [test], 0⟩] scope pos) (.ok (dctD (tellOf l), σ.own)) :=
  .dcomp h (.lst _) cg (by simpa using hz) (fun C g0 s0 => DTurns.tell (b := compAct a scope [] C g0 s0 []) (.inl hx) (.inl hy) rfl rfl l [] (fun f hf ζ => .one (hT C g0 s0 f hf ζ)) (hK C g0 s0) (hV C g0 s0)) hs

theorem callReq (R : Real c) (l : List Fld) (hz : Sm l) {n : Nat} (hn : 7 ≤ n) : ∀ A m L fa F g0 s0, n ≤ m → CallOk c (actOf (fd c 164) A m L fa F g0 s0 []) ⟨[("act", .fn (fd c 98)), ("args", fldsD l)], []⟩ (.fn (fd c 98)) [fldsD l] ((outO dctD (checkReq l)).with []) :=
  fun A m L fa F g0 s0 hm => ok_request R l hz (by show 7 ≤ m; omega)

@[reducible] noncomputable def rrSt (l : List Fld) (r : Out D) (p : Addr) (b : Bx) : Sg := ⟨[("given", codeD r), ("is_good", .bool (isReq l)), ("fields", fldsD l), ("box", .adr p)], [(p, bxD b)]⟩
set_option maxHeartbeats 2000000 in
theorem ok_reqright (R : Real c) (b : Bx) (hb : b.Ok) {p : Addr} (hp : σ.own.lookup p = some (bxD b)) (hn : 9 ≤ a.n) : CallOk c a σ (.fn (fd c 203)) [.adr p] (.ok (.bool (reqRight b).1, setOwn σ.own p (bxD (reqRight b).2))) := by
  refine call_box (fn_law_request_right R) (n := 8) (r := .ok (.bool (reqRight b).1)) (b0 := bxD b) (b1 := bxD (reqRight b).2) rfl hn hp fun A m L fa F g0 s0 hm => ?_
  have k8 : 8 ≤ m := hm
  have k2 : 2 ≤ m := by omega
  have k3 : 3 ≤ m := by omega
  have t1 := take_ok hb (many := 4) (by decide)
  obtain ⟨q1, q2, q3⟩ := request_fok (takeV b 4).1
  obtain ⟨f1, f2, f3⟩ := spoiltV_facts t1.1 q1 q2 q3
  have hz := sm_of f2 f3
  have hL := lens_of f2
  refine Body.ofR (ω := [(p, bxD (reqRight b).2)]) ?_ (by simp)
  refine .cons (.assign (d := fldsD (spoiltV (takeV b 4).2 (requestV (takeV b 4).1)).1) (ω := [(p, bxD (spoiltV (takeV b 4).2 (requestV (takeV b 4).1)).2)]) (.callBox R (.cons (.name rfl) (.cons (.callBox R (.cons (.name rfl) .nil) (ok_lrequest R b hb lookup_here k2) rfl) .nil)) (ok_spoilt R _ t1.1 _ q2 (by omega) lookup_here k2) rfl) (.inl rfl)) ?_
  unfold reqRight
  generalize hsp : spoiltV (takeV b 4).2 (requestV (takeV b 4).1) = sp at f1 f2 f3 hz hL ⊢
  obtain ⟨l, bx⟩ := sp
  dsimp only at f1 f2 f3 hz hL ⊢
  refine .cons (.assignTup (σ' := rrSt l (outO dctD (checkReq l)) p bx) (.tuple (.cons (.callFn R (.cons (.fn R rfl rfl rfl (by decide)) (.cons (.name rfl) .nil)) (ok_code R (n := 7) trivial (callReq R l hz (Nat.le_refl 7)) k8) rfl) (.cons (.callFn R (.cons (.name rfl) .nil) (ok_lisreq R l hz hL k3) rfl) .nil)) (by simp)) (.inr ⟨["given", "is_good"], rfl, rfl, .bind (.inl rfl) (.bind (.inl rfl) .nil)⟩)) ?_
  unfold rrSt reqFit
  cases q1 : checkReq l with
  | none =>
    show Exs _ _ _ _ (RetO (.ok (.bool (!isReq l))) [(p, bxD bx)])
    cases q2 : isReq l with
    | true => exact .ret (.ifT (.cast (.cmp (x := .str "refused") (y := .str "given") (.sub (.name rfl) (.int _ _ _) (.tup (by decide) (by decide) rfl)) (.ifT (ω := [(p, bxD bx)]) (.plain (.name rfl)) (.str _ _ _)) (.ne (.str _ _))) (by decide)) (.retE (.bool _ _ _)))
    | false =>
      refine .ifSkip (.cast (.cmp (x := .str "refused") (y := .str "refused") (.sub (.name rfl) (.int _ _ _) (.tup (by decide) (by decide) rfl)) (.ifF (ω := [(p, bxD bx)]) (.plain (.name rfl)) (.str _ _ _)) (.ne (.str _ _))) (by decide)) ?_
      exact .ret (.ifT (ω := [(p, bxD bx)]) (.cast (b := !false) (.not (.plain (b := false) (.name rfl))) rfl) (.retE (.cast (.cmp (x := .int 270) (.sub (.name rfl) (.int _ _ _) (.tup (by decide) (by decide) rfl)) (.int _ _ _) (.eq (.int _ _))) rfl)))
  | some t =>
    show Exs _ _ _ _ (RetO (.ok (.bool (isReq l && eqDict t (tellOf l)))) [(p, bxD bx)])
    cases q2 : isReq l with
    | false => exact .ret (.ifT (.cast (.cmp (x := .str "given") (y := .str "refused") (.sub (.name rfl) (.int _ _ _) (.tup (by decide) (by decide) rfl)) (.ifF (ω := [(p, bxD bx)]) (.plain (.name rfl)) (.str _ _ _)) (.ne (.str _ _))) (by decide)) (.retE (.bool _ _ _)))
    | true =>
      refine .ifSkip (.cast (.cmp (x := .str "given") (y := .str "given") (.sub (.name rfl) (.int _ _ _) (.tup (by decide) (by decide) rfl)) (.ifT (ω := [(p, bxD bx)]) (.plain (.name rfl)) (.str _ _ _)) (.ne (.str _ _))) (by decide)) (.ifSkip (.cast (b := !true) (.not (.plain (b := true) (.name rfl))) rfl) ?_)
      refine .retE (.cast (.cmp (x := dctD t) (.sub (.name rfl) (.int _ _ _) (.tup (by decide) (by decide) rfl)) (.tellC l (.name rfl) (.none rfl rfl rfl rfl) (by omega) rfl rfl (fun C g0 s0 f hf ζ => ?_) (fun C g0 s0 f hf ζ => ?_) (fun C g0 s0 f hf ζ => ?_)) (.eqDct t (tellOf l))) (by rw [Bool.true_and]))
      · have h1 := hz.name f hf
        exact Tr.cmp (Ev.slice2 (Ev.name rfl) Part.none (Part.lit _ _ _) (CutOk.bytes _ _ _ (by first | assumption | decide | omega | (dsimp only; omega) | (simp; done) | (simp; omega) | (simp only [actOf, compAct]; omega)) (fun _ => (fun _ => (fun _ => rfl))))) (Ev.bytes _ _ _) (Bin.eq (EqD.bytes _ _))
      · exact Ev.name rfl
      · exact Ev.name rfl
end


section
open PySem PySem.W PySem.Calls PyProof.Rows PySem.SeqAt
variable {c : Cx} {a : Act} {g : Heap} {s : Shared} {σ : Sg}

/-! the two readings of a length -/
theorem dropWhile_nil {α : Type} {p : α → Bool} : ∀ {l : List α}, l.dropWhile p = [] ↔ ∀ y ∈ l, p y = true
  | [] => by simp
  | y :: r => by
    rw [List.dropWhile_cons]
    cases q : p y with
    | true => simp [q, dropWhile_nil (l := r)]
    | false => simp [q]
theorem strip_nil {v x : List UInt8} : (stripB v x == []) = v.all x.contains := by
  have key : stripB v x = [] ↔ ∀ y ∈ v, x.contains y = true := by
    unfold stripB
    rw [List.reverse_eq_nil_iff, dropWhile_nil]
    constructor
    · intro h
      have : v.dropWhile x.contains = [] := by
        cases q : v.dropWhile x.contains with
        | nil => rfl
        | cons y r =>
          have h1 := h y (by rw [q]; simp)
          have h2 := List.head?_dropWhile_not x.contains v
          rw [q] at h2
          simp at h2
          rw [List.contains_iff_mem] at h1
          exact absurd h1 h2
      rwa [dropWhile_nil] at this
    · intro h y hy
      rw [List.mem_reverse] at hy
      exact h y ((List.dropWhile_suffix x.contains).subset hy)
  rw [Bool.eq_iff_iff, beq_iff_eq, key, List.all_eq_true]
theorem digit_same : ∀ x : UInt8, digs.contains x = isDigit x := by
  have h : ∀ n : _root_.Fin 256, digs.contains (UInt8.ofNat n.val) = isDigit (UInt8.ofNat n.val) := by decide +kernel
  intro x
  have := h ⟨x.toNat, x.toNat_lt⟩
  simpa using this
theorem badDig_same (v : Bs) : badDig v = badDigits v := by
  unfold badDig badDigits
  rw [strip_nil, show (digs.contains : UInt8 → Bool) = isDigit from funext digit_same]
  cases v with
  | nil => rfl
  | cons x r =>
    have e1 : (((x :: r).length : Int) == 0) = false := by simp; omega
    rw [e1, List.not_all_eq_any_not]; rfl
theorem allO_num : ∀ (vs : List Bs), allO num vs = if vs.any badDig then none else some (vs.map digitsOf)
  | [] => rfl
  | v :: r => by
    unfold allO
    rw [allO_num r]
    unfold num
    rw [← badDig_same, List.any_cons]
    cases badDig v
    · cases r.any badDig <;> rfl
    · rfl
noncomputable def toldOf : List Bs → Option Int
  | [] => none
  | v :: _ => some (digitsOf v)
theorem lenOf_same (l : List Fld) : lenOf l = if lawLens l then some (toldOf (valuesOf l nCL)) else none := by
  unfold lenOf lensOf lawLens
  rw [allO_num]
  generalize valuesOf l nCL = vs
  cases vs.any badDig
  · show firstOf (vs.map digitsOf) = if sameDigs vs then _ else _
    cases vs with
    | nil => rfl
    | cons v r =>
      show (if (digitsOf v :: r.map digitsOf).any (fun x => !(x == digitsOf v)) then none else some (some (digitsOf v))) = _
      have e : ((v :: r).filter fun w => !(digitsOf w == digitsOf v)).isEmpty = !(digitsOf v :: r.map digitsOf).any (fun x => !(x == digitsOf v)) := by
        rw [Bool.eq_iff_iff]
        simp [List.filter_eq_nil_iff]
      show _ = if ((v :: r).filter fun w => !(digitsOf w == digitsOf v)).isEmpty then _ else _
      rw [e]
      cases (digitsOf v :: r.map digitsOf).any (fun x => !(x == digitsOf v)) <;> rfl
  · rfl
end


section
open PySem PySem.W PySem.Calls PyProof.Rows PySem.SeqAt
variable {c : Cx} {a : Act} {g : Heap} {s : Shared} {σ : Sg}

theorem Body.grow {ss : List Stmt} {l : List (PySem.Str × D)} {p P : Addr} {d : D} {r : Out D} {ω' : Own} (h : Body c a ⟨l, [(p, d), (P, grownD P)]⟩ ss r ω') : Body c a ⟨l, [(p, d), (P, tabD P)]⟩ ss r ω' := .mk fun g s H => h.run g s (H.grow (ω₁ := [(p, d)]) (ω₂ := []))
theorem codeHd_size (R : Real c) (g : Heap) (w : c.wd g) : CodeHd g 214 210 := ⟨_, _, _, _, _, _, _, _, _, R.kin g w 214 _ rfl, rfl, rfl, rfl, rfl, rfl, rfl, rfl, rfl, by decide⟩

theorem caps_of {scope : Scope} (H : St c a g s σ) {caps : List (PySem.Str × Addr × D)} (hc : ∀ q ∈ caps, a.env.cells.lookup q.1 = some q.2.1 ∧ σ.loc.lookup q.1 = some q.2.2 ∧ a.env.kindOf q.1 = some .cell ∧ scope.names.lookup q.1 = some .free) : CapsAt c g s.heap a.F scope caps := fun q hq => by
  obtain ⟨h1, h2, h3, h4⟩ := hc q hq
  obtain ⟨c1, c2, _⟩ := H.cells _ _ h1
  refine ⟨c1, (H.cellsF _ _ h1).1, ?_, h4⟩
  obtain ⟨v, hn, hr⟩ := H.loc _ _ h2
  cases hn with
  | loc k _ _ => rw [h3] at k; cases k
  | @cell b k hl hc =>
    rw [h1] at hl; cases hl
    exact ⟨v, hc, hr⟩
theorem CapsAt.move {scope : Scope} {caps : List (PySem.Str × Addr × D)} {F : List Addr} {L : Addr} {g' : Heap} {s' : Shared} (h : CapsAt c g s.heap F scope caps) (m : Mv (L :: F) [] g s g' s') (hL : s.heap.get? L = none) : CapsAt c g' s'.heap (L :: F) scope caps := fun q hq => by
  obtain ⟨h1, h2, ⟨w, h3, h4⟩, h5⟩ := h q hq
  have hF : q.2.1 ∉ L :: F := fun hm => by
    rcases List.mem_cons.mp hm with e | e
    · obtain ⟨o, x, _⟩ := h3; rw [e, hL] at x; cases x
    · exact h2 e
  refine ⟨?_, hF, ⟨w, m.cell (by simp) hF h3, h4.up m.gg⟩, h5⟩
  obtain ⟨o, x, _⟩ := id h3
  exact (m.old _ o x).trans h1

theorem Ev.callLam {x : PySem.Str} {p pos lpos : Pos} {params : Arguments} {body e2 : Expr} {scope : Scope} {clos : List (PySem.Str × Addr)} {fc : FuncData} {x2 : D} {ω' : Own} {o : Out (D × Own)} {q : PySem.Str} (h1 : Ev c a σ (.Name x p) (.ok (.fn fc, σ.own)))
    (hlam : ∀ g s, St c a g s σ → wpAny c.M a.A (eval (.Lambda params body scope lpos) a.env) (fun v s' => ∃ f g', g.StaysIn g' ∧ St c a g' s' ⟨σ.loc, ω'⟩ ∧ Rd c g' v (.fn f) ∧ LamAt g' q params body scope clos f) (fun _ _ => False) s)
    (h2 : EvAll c a ⟨σ.loc, ω'⟩ pos [e2] (.ok ([x2], ω')))
    (h3 : ∀ f g s v vs, St c a g s ⟨σ.loc, ω'⟩ → LamAt g q params body scope clos f → Rd c g v (.fn fc) → RdAll c g vs [.fn f, x2] → wpAny c.M a.A (PySem.call v vs []) (fun r s' => ∃ d ω, o = .ok (d, ω) ∧ ∃ g', g.StaysIn g' ∧ St c a g' s' ⟨σ.loc, ω⟩ ∧ Rd c g' r d) (Er c a g o) s)
    (he : starEach [.Lambda params body scope lpos, e2] a.env = (false, eval (.Lambda params body scope lpos) a.env) :: starEach [e2] a.env := by rfl) (hplain : (backTo pos (starEach [e2] a.env)).any (·.1) = false := by rfl) : Ev c a σ (.Call (.Name x p) [.Lambda params body scope lpos, e2] [] pos) o := .mk fun g s H => by
  refine Call_Name rfl (h1.then H (fun v s₁ g₁ k₁ H₁ r₁ => ?_))
  refine callWith_of (P := fun h => g₁.StaysIn h) ?_ (keeper_of (f := .fn fc) trivial r₁) ?_
  · rw [he]; show ((false || (backTo pos (starEach [e2] a.env)).any (·.1)) || false) = false; rw [hplain]; rfl
  · rw [he]
    refine evalArgs_plain (spliced_cons (wpAny_mono (hlam g₁ s₁ H₁) (fun v₂ s₂ ⟨f, g₂, k₂, H₂, r₂, hl⟩ => ?_) fun _ _ e => e.elim))
    refine h2.then H₂ (fun vs s₃ g₃ k₃ H₃ r₃ => ?_)
    refine ⟨fun b o e => H₃.stays b o (k₃ b o (k₂ b o e)), ?_⟩
    refine wpAny_mono (h3 f g₃ s₃ v (v₂ :: vs) H₃ (hl.up k₃) ((r₁.up k₂).up k₃) (.cons (r₂.up k₃) r₃)) (fun r s₄ h => ?_) fun _ _ h => ?_
    · obtain ⟨d, ω, q, g₄, k₄, H₄, r₄⟩ := h
      exact ⟨d, ω, q, g₄, fun b o e => k₄ b o (k₃ b o (k₂ b o (k₁ b o e))), H₄, r₄⟩
    · obtain ⟨q, g₄, σ', k₄, H₄⟩ := h
      exact ⟨q, g₄, σ', fun b o e => k₄ b o (k₃ b o (k₂ b o (k₁ b o e))), H₄⟩

noncomputable def sizesL : List Int := [0, 5, 4]
noncomputable def sizeB (b : Bx) : Bx := (takeV (takeV b 3).2 2).2
theorem size_get {i : Int} (h0 : 0 ≤ i) (h : i < 3) : (sizesL.map D.int)[i.toNat]? = some (.int (sizesL.getD i.toNat 0)) := by
  have : i.toNat < sizesL.length := by show i.toNat < 3; omega
  rw [List.getElem?_map, List.getElem?_eq_getElem this, List.getD_eq_getElem?_getD, List.getElem?_eq_getElem this]; rfl
noncomputable def goodLen (told : Option Int) (size : Int) (bl : Bool) : Bool := match told with
  | none => true
  | some n => (n == size) || (bl && (size == 0))
theorem goodLen_same (told : Option Int) (size : Int) (bl : Bool) : badLen told size bl = !goodLen told size bl := by
  cases told with
  | none => rfl
  | some n => dsimp only [badLen, goodLen]; cases n == size <;> cases bl <;> cases size == 0 <;> rfl
noncomputable def dueD (b : Bool) (d : D) : D := if b then .tup [.str "given", d] else .tup [.str "refused", .int 270]
theorem EqD.due (b : Bool) : EqD 8 (codeD (boolOut b)) (dueD b .none) true := by
  cases b with
  | true => exact EqD.tup (b := true) (.cons (b := ("given" : PySem.Str) == "given") (.str _ _) (.cons .none .nil))
  | false => exact EqD.tup (b := true) (.cons (b := ("refused" : PySem.Str) == "refused") (.str _ _) (.cons (b := (270 : Int) == 270) (.int _ _) .nil))

set_option maxHeartbeats 4000000 in
theorem ok_lsize (R : Real c) (b : Bx) (hb : b.Ok) (l : List Fld) (hz : Sm l) (hL : LensOk l) (hN : ∀ f ∈ l, f.1 = nCL) {p : Addr} (hown : σ.own = [(p, bxD b), (210, tabD 210)]) (hn : 9 ≤ a.n) :
    CallOk c a σ (.fn (fd c 215)) [.adr p, fldsD l] (.ok (.bool true, [(p, bxD (sizeB b)), (210, grownD 210)])) := .mk fun g s v vs H hv hvs => by
  have hnd : p ≠ 210 := by have := H.own.apart; rw [hown] at this; simpa using this
  refine (call_fn (fn_law_size_right R) (n := 8) (r := .ok (.bool true)) (ωi := [(p, bxD b), (210, tabD 210)]) (ωo := [(p, bxD (sizeB b)), (210, grownD 210)]) (ω' := [(p, bxD (sizeB b)), (210, grownD 210)]) rfl hn (fun q hq => by rw [hown]; exact hq) (by simpa using hnd) (fun q hq => .inr ⟨by simp only [List.mem_cons, List.not_mem_nil, or_false] at hq; rcases hq with rfl | rfl <;> simp, hq⟩) (by simpa using hnd) fun A m L fa F g0 s0 hm => ?_).run g s v vs H hv hvs
  clear H hv hvs v vs hown hn
  have k8 : 8 ≤ m := hm
  have k1 : 1 ≤ m := by omega
  have k2 : 2 ≤ m := by omega
  have k5 : 5 ≤ m := by omega
  have k6 : 6 ≤ m := by omega
  have hl := hz.len
  have t1 := take_ok hb (many := 3) (by decide)
  have t2 := take_ok t1.1 (many := 2) (by decide)
  refine .step (.assignTup (σ' := ⟨[("is_bodiless", .bool ((takeV (takeV b 3).2 2).1 == 0)), ("size", .int (sizesL.getD (takeV b 3).1.toNat 0)), ("box", .adr p), ("fields", fldsD l)], [(p, bxD (sizeB b)), (210, tabD 210)]⟩) (.tuple (.cons (.sub (x := .lst (sizesL.map .int)) (.list (.cons (.int _ _ _) (.cons (.int _ _ _) (.cons (.int _ _ _) .nil)))) (.take R rfl hb (many := 3) (by decide) k1 (by exact EvAll.cons (Ev.name rfl) (EvAll.cons (Ev.int _ _ _) EvAll.nil)) rfl) (.lst t1.2.1 (by omega) (size_get t1.2.1 t1.2.2))) (.cons (.cmp (.take R rfl t1.1 (many := 2) (by decide) k1 (by exact EvAll.cons (Ev.name rfl) (EvAll.cons (Ev.int _ _ _) EvAll.nil)) rfl) (.int _ _ _) (.eq (.int _ _))) .nil)) (by simp)) ?_) ?_
  · first
      | exact .inl ⟨rfl, .tuple (.cons (.name (.inr ⟨rfl, rfl, _, rfl⟩)) (.cons (.name (.inr ⟨rfl, rfl, _, rfl⟩)) .nil))⟩
      | exact .inr ⟨["size", "is_bodiless"], rfl, rfl, .bind (.inr ⟨rfl, rfl, _, rfl⟩) (.bind (.inr ⟨rfl, rfl, _, rfl⟩) .nil)⟩
  show Body _ _ ⟨[("is_bodiless", .bool ((takeV (takeV b 3).2 2).1 == 0)), ("size", .int (sizesL.getD (takeV b 3).1.toNat 0)), ("box", .adr p), ("fields", fldsD l)], [(p, bxD (sizeB b)), (210, tabD 210)]⟩ _ _ _
  generalize ((takeV (takeV b 3).2 2).1 == 0) = bl
  generalize sizesL.getD (takeV b 3).1.toNat 0 = size
  generalize sizeB b = bx
  have hls := lenOf_same l
  have hvs : valuesOf l nCL = l.map (·.2) := by
    unfold valuesOf
    rw [List.filter_eq_self.mpr fun f hf => by rw [hN f hf]; simp]
  cases q1 : lawLens l with
  | false =>
    rw [q1] at hls
    refine .grow (p := p) ?_
    refine .ret (ω := [(p, bxD bx), (210, grownD 210)]) (.ret (.ifT (.not (.plain (b := false) (.cast (.callFn R (.cons (.name rfl) .nil) (ok_llens R l hz hL k2) rfl) (by rw [q1])))) (.retE (.cast (.cmp (x := codeD (outO optD (lenOf l))) (y := .tup [.str "refused", .int 270]) (.callFn R (.cons (.fn R rfl rfl rfl (by decide)) (.cons (.name rfl) .nil)) (ok_code R (n := 5) trivial (fun A m L fa F g0 s0 hm => ok_length R l hz hm) k6) rfl) (.tuple (.cons (.str _ _ _) (.cons (.int _ _ _) .nil))) (.eq (b := true) (by rw [hls]; exact EqD.due false))) rfl)))) (by simp)
  | true =>
    rw [q1] at hls
    refine .step (.ifF (.not (.plain (b := true) (.cast (.callFn R (.cons (.name rfl) .nil) (ok_llens R l hz hL k2) rfl) (by rw [q1])))) .nil) ?_
    have hlen : ∀ σ, CallOk c (actOf (fd c 215) A m L fa F g0 s0 [p, 210]) σ (.fn (fd c 124)) [fldsD l] (.ok (optD (toldOf (valuesOf l nCL)), σ.own)) := fun σ => by
      have := ok_length (a := actOf (fd c 215) A m L fa F g0 s0 [p, 210]) (σ := σ) R l hz k5
      rw [hls] at this; exact this
    refine .asgn (d := optD (toldOf (valuesOf l nCL))) ?_ (.inl rfl) ?_
    · rw [hvs]
      cases l with
      | nil => exact .ifF (ω := [(p, bxD bx), (210, tabD 210)]) (.cast (.neNil (l := []) (.name rfl)) rfl) (.none _ _)
      | cons f r =>
        have hb1 : badDig f.2 = false := by
          have : (valuesOf (f :: r) nCL).any badDig = false := by
            cases q : (valuesOf (f :: r) nCL).any badDig with
            | false => rfl
            | true => unfold lawLens at q1; rw [q] at q1; cases q1
          rw [hvs, List.map_cons, List.any_cons, Bool.or_eq_false_iff] at this
          exact this.1
        obtain ⟨x, hd⟩ := hL f.2 (by rw [hvs]; simp) hb1
        refine .ifT (ω := [(p, bxD bx), (210, tabD 210)]) (.cast (.neNil (l := fldD f :: r.map fldD) (.name rfl)) rfl) (.callFn R (.cons (.sub (x := fldD f) (.sub (x := .lst (fldD f :: r.map fldD)) (.name rfl) (.int _ _ _) (.lst (by decide) (by decide) rfl)) (.int _ _ _) (.tup (by decide) (by decide) rfl)) .nil) (ok_ldigits R f.2 hd k1) rfl)
    · rw [hvs] at hls hlen ⊢
      generalize toldOf (l.map (·.2)) = told at hls hlen ⊢
      have hck : checkLen l size bl = goodLen told size bl := by
        unfold checkLen
        rw [hls]
        show (!badLen told size bl) = _
        rw [goodLen_same, Bool.not_not]
      refine .step (.ifF (.cast (b := !true) (.cmp (x := optD told) (y := optD told) (.callFn R (.cons (.name rfl) .nil) (hlen _) rfl) (.name rfl) (.ne ?_)) rfl) .nil) ?_
      · cases told with
        | none => exact .none
        | some n => exact (show EqD 8 (.int n) (.int n) true from by simpa using EqD.int (n := 8) n n)
      refine .asgn (d := .bool (goodLen told size bl)) ?_ (.inl rfl) ?_
      · cases told with
        | none => exact .bool_ (.stop (.cmp (x := .none) (.name rfl) (.none _ _) .isNN) (.inr ⟨rfl, rfl⟩))
        | some n =>
          exact .cast (.bool_ (.or (.cmp (x := .int n) (.name rfl) (.none _ _) (.isIN n)) fun _ => .or (.cmp (x := .int n) (.name rfl) (.name rfl) (.eq (.int _ _))) fun _ => .one (by exact Ev.bool_ (EvL.and (Ev.name rfl) (fun _ => (EvL.one (Ev.cmp (Ev.name rfl) (Ev.int _ _ _) (Bin.eq (EqD.int _ _))))))))) (by rfl)
      have hlamq : ∀ σ : Sg, σ.own = [(p, bxD bx), (210, tabD 210)] → ∀ {params : Arguments} {body : Expr} {scope : Scope} {pos : Pos} {clos : List (PySem.Str × Addr)}, closureFor scope (actOf (fd c 215) A m L fa F g0 s0 [p, 210]).env = pure clos → defaultsOf params (actOf (fd c 215) A m L fa F g0 s0 [p, 210]).env = ([], []) → ∀ g s, St c (actOf (fd c 215) A m L fa F g0 s0 [p, 210]) g s σ →
          wpAny c.M (actOf (fd c 215) A m L fa F g0 s0 [p, 210]).A (eval (.Lambda params body scope pos) (actOf (fd c 215) A m L fa F g0 s0 [p, 210]).env) (fun v s' => ∃ f g', g.StaysIn g' ∧ St c (actOf (fd c 215) A m L fa F g0 s0 [p, 210]) g' s' ⟨σ.loc, [(p, bxD bx), (210, grownD 210)]⟩ ∧ Rd c g' v (.fn f) ∧ LamAt g' ((actOf (fd c 215) A m L fa F g0 s0 [p, 210]).env.qual ++ "<lambda>") params body scope clos f) (fun _ _ => False) s :=
        fun σ ho params body scope pos clos hcl hdf g s H => lam_made H (P := 210) (cd := 214) (by rw [ho]; simp) (fun q hq => by
          simp only [List.mem_cons, List.not_mem_nil, or_false] at hq
          rcases hq with rfl | rfl
          · exact .inl ⟨by rw [ho]; simp, hnd⟩
          · exact .inr rfl) (by simpa using hnd) rfl (codeHd_size R g H.wd) (R.bm g H.wd) hcl hdf
      refine .step (.assign (d := codeD (boolOut (checkLen l size bl))) (ω := [(p, bxD bx), (210, grownD 210)]) (.callLam (o := .ok (codeD (boolOut (checkLen l size bl)), [(p, bxD bx), (210, grownD 210)])) (.fn R rfl rfl rfl (by decide)) (hlamq _ rfl rfl rfl) (.cons (.name rfl) .nil) fun f g s v vs H hl hv hvs => ?_) (.inl rfl)) ?_
      · refine call_at (fn_law_code R) (n := 7) (r := .ok (codeD (boolOut (checkLen l size bl)))) rfl k8 H hv hvs fun A m L' fa hm hLn => code_body R trivial (.mk fun g' s' v' vs' H' hv' hvs' => ?_)
        have hm7 : 7 ≤ m := hm
        refine call_lam (caps := [("size", L + 1 + 1, .int size), ("is_bodiless", L + 1, .bool bl)]) (names := ["one"]) (n := 6) rfl hm7 H' hv' hvs' (hl.up H'.mv.gg) (fun pm cv ctv vs hv => ?_) (by decide) (by decide) (by decide) rfl rfl rfl ((caps_of H fun q hq => ?_).move H'.mv hLn) (by simp [capsC]) fun A m L fa c' F g0 s0 hm => ?_
        · match vs, hv with
          | [u], _ => rfl
        · simp only [List.mem_cons, List.not_mem_nil, or_false] at hq
          rcases hq with rfl | rfl
          · exact ⟨rfl, rfl, rfl, rfl⟩
          · exact ⟨rfl, rfl, rfl, rfl⟩
        · exact .callFn R (.cons (.name rfl) (.cons (.name rfl) (.cons (.name rfl) .nil))) (ok_checklen R l size bl hz hm) rfl
      · rw [hck]
        refine .ret (ω := [(p, bxD bx), (210, grownD 210)]) (.ret (.ret (.cast (.cmp (y := dueD (goodLen told size bl) .none) (.name rfl) ?_ (.eq (.due _))) rfl))) (by simp)
        refine .cast (.ite (.plain (.name rfl)) (fun _ => .tuple (.cons (.str _ _ _) (.cons (.none _ _) .nil))) (fun _ => .tuple (.cons (.str _ _ _) (.cons (.int _ _ _) .nil)))) ?_
        rfl
end


section
open PySem PySem.W PySem.Calls PyProof.Rows PySem.SeqAt

/-! plain laws: the law's own reading is the program's -/
theorem all256 {P : UInt8 → Prop} [DecidablePred P] (h : ∀ n : _root_.Fin 256, P (UInt8.ofNat n.val)) (x : UInt8) : P x := by
  have := h ⟨x.toNat, x.toNat_lt⟩
  simpa using this
theorem sign_same (x : UInt8) : isNameOctet x.toNat = lawSigns.contains x := all256 (P := fun x => isNameOctet x.toNat = lawSigns.contains x) (by decide +kernel) x
theorem badName_same (n : Bs) : badName n = lawBadName n := by
  unfold badName lawBadName
  rw [show (fun x : UInt8 => !isNameOctet x.toNat) = fun o => !lawSigns.contains o from funext fun x => by rw [sign_same]]
  congr 1
  cases bare n with
  | nil => rfl
  | cons x r => simp; omega
theorem extract_one (v : Bs) (i : Nat) (x : UInt8) (hi : i < v.length) : (v.toArray.extract i (i + 1) == #[x]) = (v[i] == x) := by
  have : v.toArray.extract i (i + 1) = #[v[i]] := by
    apply Array.ext'
    rw [Array.toList_extract]
    simp only [List.extract_eq_take_drop]
    show List.take (i + 1 - i) (List.drop i v) = [v[i]]
    rw [List.drop_eq_getElem_cons hi, Nat.add_sub_cancel_left]
    rfl
  rw [this, Bool.eq_iff_iff]
  simp
theorem hasB_one (x : UInt8) (v : Bs) : hasB [x] v = v.contains x := by
  unfold hasB PySem.Builtin.Bytes.find?
  rw [Bool.eq_iff_iff, List.find?_isSome, List.contains_iff_mem]
  simp only [List.mem_map, List.mem_range]
  constructor
  · rintro ⟨i, ⟨j, hj, rfl⟩, h⟩
    simp only [Nat.add_zero, List.size_toArray, List.length_cons, List.length_nil] at hj h
    have hj' : j < v.length := by simpa using hj
    have := extract_one v j x hj'
    simp only [Nat.zero_add] at h
    rw [this, beq_iff_eq] at h
    exact h ▸ List.getElem_mem hj'
  · intro h
    obtain ⟨i, hi, e⟩ := List.getElem_of_mem h
    refine ⟨i, ⟨i, by simpa using hi, rfl⟩, ?_⟩
    simp only [List.size_toArray, List.length_cons, List.length_nil, Nat.zero_add]
    rw [extract_one v i x hi, e, beq_self_eq_true]
theorem octets_same (v : Bs) : badOctets v = (hasB [10] v || (hasB [13] v || hasB [0] v)) := by
  rw [hasB_one, hasB_one, hasB_one]
  unfold badOctets
  have e : ∀ x : UInt8, (([0, 10, 13] : List Int).contains (x.toNat : Int)) = ((x == 10) || ((x == 13) || (x == 0))) := fun x => all256 (P := fun x : UInt8 => (([0, 10, 13] : List Int).contains (x.toNat : Int)) = ((x == 10) || ((x == 13) || (x == 0)))) (by decide +kernel) x
  rw [show (fun x : UInt8 => ([0, 10, 13] : List Int).contains (x.toNat : Int)) = fun x => ((x == 10) || ((x == 13) || (x == 0))) from funext e]
  induction v with
  | nil => rfl
  | cons y r ih =>
    rw [List.any_cons, ih, List.contains_cons, List.contains_cons, List.contains_cons]
    have c1 : (10 == y) = (y == 10) := BEq.comm
    have c2 : (13 == y) = (y == 13) := BEq.comm
    have c3 : (0 == y) = (y == 0) := BEq.comm
    rw [c1, c2, c3]
    cases y == 10 <;> cases y == 13 <;> cases y == 0 <;> cases r.contains 10 <;> cases r.contains 13 <;> cases r.contains 0 <;> rfl
theorem blank_same (x : UInt8) : ([[32], [9]] : List Bs).contains [x] = ([32, 9] : Bs).contains x := by
  rw [List.contains_cons, List.contains_cons, List.contains_cons, List.contains_cons]
  have e : ∀ y : UInt8, (([x] : Bs) == [y]) = (x == y) := fun y => by rw [Bool.eq_iff_iff]; simp
  rw [e, e]; rfl
theorem clip1 (n : Nat) : clipAt (n + 1) 1 = 1 := by
  unfold clipAt
  rw [if_neg (by decide)]
  omega
theorem cut1 (x : UInt8) (r : Bs) : cutOf (x :: r) none (some 1) = [x] := by
  unfold cutOf lowOf highOf
  show List.take (clipAt (r.length + 1) 1 - 0) (List.drop 0 (x :: r)) = [x]
  rw [clip1]; rfl
theorem dropWhile_same {α : Type} {p : α → Bool} : ∀ {l : List α}, l.dropWhile p = l ↔ ∀ x r, l = x :: r → p x = false
  | [] => by simp
  | y :: r => by
    rw [List.dropWhile_cons]
    cases q : p y with
    | true =>
      constructor
      · intro h
        have h' : r.dropWhile p = y :: r := h
        have := (List.dropWhile_suffix p (l := r)).length_le
        rw [h'] at this; simp only [List.length_cons] at this; exact absurd this (by omega)
      · intro h; have := h y r rfl; rw [q] at this; cases this
    | false => simp [q]
theorem cutLast (v : Bs) (h : v ≠ []) : cutOf v (some (-1)) none = [v.getLast h] := by
  have hl : 0 < v.length := List.length_pos_iff.mpr h
  have e : clipAt v.length (-1) = v.length - 1 := by
    unfold clipAt
    rw [if_pos (by decide)]
    omega
  unfold cutOf lowOf highOf
  show List.take (v.length - clipAt v.length (-1)) (List.drop (clipAt v.length (-1)) v) = _
  rw [e, List.drop_eq_getElem_cons (show v.length - 1 < v.length from by omega), show v.length - 1 + 1 = v.length from by omega, List.drop_length, show v.length - (v.length - 1) = 1 from by omega, List.getLast_eq_getElem]
  rfl
theorem strip_same (v x : Bs) : (stripB v x == v) = match v with | [] => true | y :: r => !x.contains y && !x.contains ((y :: r).getLast (by simp)) := by
  cases v with
  | nil => rfl
  | cons y r =>
    have hl := (strip_len (y :: r) x).1
    have d1 := List.dropWhile_suffix x.contains (l := y :: r)
    have d2 := List.dropWhile_suffix x.contains (l := ((y :: r).dropWhile x.contains).reverse)
    show (stripB (y :: r) x == y :: r) = (!x.contains y && !x.contains ((y :: r).getLast (by simp)))
    rw [Bool.eq_iff_iff, beq_iff_eq, Bool.and_eq_true]
    constructor
    · intro h
      have l1 := d1.length_le
      have l2 := d2.length_le
      have e0 : ((((y :: r).dropWhile x.contains).reverse.dropWhile x.contains).reverse).length = (y :: r).length := by
        have : (stripB (y :: r) x).length = (y :: r).length := by rw [h]
        exact this
      rw [List.length_reverse] at e0
      rw [List.length_reverse] at l2
      have e1 : (y :: r).dropWhile x.contains = y :: r := d1.eq_of_length (by omega)
      have e2 : (y :: r).reverse.dropWhile x.contains = (y :: r).reverse := by
        rw [e1] at d2 e0
        exact d2.eq_of_length (by rw [List.length_reverse]; exact e0)
      refine ⟨by rw [dropWhile_same.mp e1 y r rfl]; rfl, ?_⟩
      have hne : (y :: r).reverse ≠ [] := by simp
      have := dropWhile_same.mp e2 ((y :: r).reverse.head hne) ((y :: r).reverse.tail) (List.cons_head_tail hne).symm
      rw [List.head_reverse] at this
      rw [this]; rfl
    · rintro ⟨h1, h2⟩
      have e1 : (y :: r).dropWhile x.contains = y :: r := dropWhile_same.mpr fun z t e => by cases e; simpa using h1
      have e2 : (y :: r).reverse.dropWhile x.contains = (y :: r).reverse := dropWhile_same.mpr fun z t e => by
        have hz : (y :: r).reverse.head (by simp) = z := by simp only [e, List.head_cons]
        rw [List.head_reverse] at hz
        rw [← hz]; simpa using h2
      unfold stripB
      rw [e1, e2, List.reverse_reverse]
theorem badValue_same (v : Bs) : badValue v = lawBadVal v := by
  unfold badValue lawBadVal
  rw [octets_same, Bool.or_comm]
  congr 1
  rw [strip_same]
  cases v with
  | nil => decide +kernel
  | cons y r =>
    unfold badEnds
    rw [cut1, cutLast (y :: r) (by simp), blank_same, blank_same, Bool.or_false]
    dsimp only
    rw [Bool.not_and, Bool.not_not, Bool.not_not]
theorem contains_perm {l m : List Bs} (h : l.Perm m) (n : Bs) : l.contains n = m.contains n := by
  rw [Bool.eq_iff_iff, List.contains_iff_mem, List.contains_iff_mem]; exact h.mem_iff
theorem conn_perm (n : Bs) : connNames.contains n = lawConn.contains n := by
  refine contains_perm ?_ n
  decide
theorem known_perm (n : Bs) : reqNames.contains n = lawKnown.contains n := by
  refine contains_perm ?_ n
  decide
theorem okField_same (n v : Bs) : okField n v = (!lawBadName n && (!lawBadVal v && (!lawConn.contains n && !lawBadTe n v))) := by
  unfold okField badConn lawBadTe
  rw [badName_same, badValue_same, conn_perm]
  congr 2
  rw [show (v != [116, 114, 97, 105, 108, 101, 114, 115]) = !(v == [116, 114, 97, 105, 108, 101, 114, 115]) from rfl]
  cases lawConn.contains n <;> cases n == [116, 101] <;> cases v == [116, 114, 97, 105, 108, 101, 114, 115] <;> rfl

/-! pseudo_fields and the law's plain -/
noncomputable def isCol (f : Fld) : Bool := cutOf f.1 none (some 1) == [58]
noncomputable def cols (l : List Fld) : List Fld := l.filter isCol
/-- the law's step in one row -/
theorem lawStep_eq (b : Bool × List Bs) (f : Fld) : lawStep b f = if okField f.1 f.2 then (if !isCol f then .go (true, b.2 ++ [f.1]) else if b.1 || b.2.contains f.1 then .ret (.bool false) [] else .go (b.1, b.2 ++ [f.1])) else .ret (.bool false) [] := by
  rw [okField_same]
  unfold lawStep isCol
  cases lawBadName f.1 <;> cases lawBadVal f.2 <;> cases lawConn.contains f.1 <;> cases lawBadTe f.1 f.2 <;> rfl
theorem dlook_mem (t : List Fld) (k : Bs) : ((t.map fun f => (f.1, D.bytes f.2)).lookup k).isSome = (t.map (·.1)).contains k := by
  induction t with
  | nil => rfl
  | cons f r ih =>
    obtain ⟨x, y⟩ := f
    rw [List.map_cons, List.lookup_cons, List.map_cons, List.contains_cons]
    cases q : k == x with
    | true => rfl
    | false => exact ih
theorem pseudoStep_eq (known : List Bs) (b : Bool × List Fld) (f : Fld) : pseudoStep known b f = if okField f.1 f.2 then (if !isCol f then .go (true, b.2) else if b.1 || (!known.contains f.1 || (b.2.map (·.1)).contains f.1) then .err else .go (b.1, b.2 ++ [f])) else .err := by
  unfold pseudoStep isCol
  rw [dlook_mem, Bool.or_false]; rfl
noncomputable def goB {β : Type} : Tn β → Bool
  | .go _ => true
  | _ => false
theorem plain_run {known : List Bs} : ∀ (l : List Fld) (bh : Bool) (met : List Bs) (t : List Fld), (∀ f : Fld, isCol f = true → met.contains f.1 = (t.map (·.1)).contains f.1) →
    foldT (pseudoStep known) (bh, t) l = (if goB (foldT lawStep (bh, met) l) && (cols l).all fun f => known.contains f.1 then .go (match foldT lawStep (bh, met) l with | .go b => b.1 | _ => bh, t ++ cols l) else .err)
  | [], bh, met, t, _ => by simp [foldT, goB, cols]
  | f :: r, bh, met, t, hm => by
    rw [foldT, foldT, lawStep_eq, pseudoStep_eq]
    cases okField f.1 f.2 with
    | false => rfl
    | true =>
      simp only [if_true]
      cases q : isCol f with
      | false =>
        simp only [Bool.not_false, if_true]
        have ih := plain_run (known := known) r true (met ++ [f.1]) t (fun x hx => by
          rw [List.contains_append, hm x hx]
          have : ([f.1] : List Bs).contains x.1 = false := by
            cases z : ([f.1] : List Bs).contains x.1 with
            | false => rfl
            | true =>
              have e : x.1 = f.1 := by simpa using z
              unfold isCol at q hx
              rw [e] at hx; rw [q] at hx; cases hx
          rw [this, Bool.or_false])
        rw [ih, show cols (f :: r) = cols r from by unfold cols; rw [List.filter_cons_of_neg (by rw [q]; decide)]]
        cases foldT lawStep (true, met ++ [f.1]) r <;> rfl
      | true =>
        simp only [Bool.not_true, Bool.false_eq_true, if_false]
        rw [← hm f q]
        have ec : cols (f :: r) = f :: cols r := by unfold cols; rw [List.filter_cons_of_pos q]
        rw [ec, List.all_cons]
        cases z : (bh || met.contains f.1) with
        | true =>
          have z2 : (bh || (!known.contains f.1 || met.contains f.1)) = true := by
            cases bh <;> cases known.contains f.1 <;> simp_all
          rw [z2]; rfl
        | false =>
          have hb : bh = false := by cases bh <;> simp_all
          have hc : met.contains f.1 = false := by cases w : met.contains f.1 <;> simp_all
          subst hb
          rw [hc]
          simp only [Bool.false_or, Bool.or_false, Bool.false_eq_true, if_false]
          cases k : known.contains f.1 with
          | false =>
            simp
          | true =>
            have ih := plain_run (known := known) r false (met ++ [f.1]) (t ++ [f]) (fun x hx => by
              rw [List.contains_append, hm x hx, List.map_append, List.contains_append]; rfl)
            simp only [Bool.not_true, Bool.false_eq_true, if_false, Bool.true_and]
            rw [ih, List.append_assoc]; rfl
theorem pseudo_eq (l : List Fld) (known : List Bs) : pseudo l known = if lawPlain l && (cols l).all (fun f => known.contains f.1) then some (cols l) else none := by
  unfold pseudo
  rw [plain_run l false [] [] (fun f _ => rfl)]
  have e : goB (foldT lawStep (false, []) l) = lawPlain l := by unfold lawPlain; cases foldT lawStep (false, []) l <;> rfl
  rw [e]
  cases lawPlain l && (cols l).all (fun f => known.contains f.1) <;> rfl
end


section
open PySem PySem.W PySem.Calls PyProof.Rows PySem.SeqAt

theorem plain_cols : ∀ (l : List Fld) (bh : Bool) (met : List Bs), goB (foldT lawStep (bh, met) l) = true → (∀ f ∈ cols l, met.contains f.1 = false) ∧ ((cols l).map (·.1)).Nodup ∧ (bh = true → cols l = [])
  | [], bh, met, _ => ⟨by simp [cols], by simp [cols], fun _ => rfl⟩
  | f :: r, bh, met, h => by
    rw [foldT, lawStep_eq] at h
    cases hf : okField f.1 f.2 with
    | false => rw [hf] at h; cases h
    | true =>
      rw [hf] at h
      simp only [if_true] at h
      cases q : isCol f with
      | false =>
        rw [q] at h
        have ih := plain_cols r true _ h
        have ec : cols (f :: r) = [] := by
          unfold cols; rw [List.filter_cons_of_neg (by rw [q]; decide)]; exact ih.2.2 rfl
        rw [ec]
        exact ⟨by simp, by simp, fun _ => rfl⟩
      | true =>
        rw [q] at h
        simp only [Bool.not_true, Bool.false_eq_true, if_false] at h
        have ec : cols (f :: r) = f :: cols r := by unfold cols; rw [List.filter_cons_of_pos q]
        rw [ec]
        cases z : (bh || met.contains f.1) with
        | true => rw [z] at h; cases h
        | false =>
          rw [z] at h
          have hb : bh = false := by cases bh <;> simp_all
          have hc : met.contains f.1 = false := by cases w : met.contains f.1 <;> simp_all
          obtain ⟨i1, i2, i3⟩ := plain_cols r bh _ h
          refine ⟨fun x hx => ?_, ?_, fun e => by rw [hb] at e; cases e⟩
          · rcases List.mem_cons.mp hx with rfl | hx
            · exact hc
            · have := i1 x hx
              rw [List.contains_append, Bool.or_eq_false_iff] at this
              exact this.1
          · rw [List.map_cons, List.nodup_cons]
            refine ⟨fun hm => ?_, i2⟩
            obtain ⟨x, hx, e⟩ := List.mem_map.mp hm
            have := i1 x hx
            rw [List.contains_append, Bool.or_eq_false_iff] at this
            have h2 := this.2
            rw [e] at h2
            simp at h2
theorem plain_go {l : List Fld} (h : lawPlain l = true) : goB (foldT lawStep (false, []) l) = true := by
  unfold lawPlain at h
  cases q : foldT lawStep (false, []) l with
  | go b => rfl
  | err => rw [q] at h; cases h
  | ret d ω => rw [q] at h; cases h
theorem tell_cols : ∀ (l t : List Fld), ((t ++ cols l).map (·.1)).Nodup → l.foldl tellStep t = t ++ cols l
  | [], t, _ => by simp [cols]
  | f :: r, t, h => by
    rw [List.foldl_cons]
    cases q : isCol f with
    | false =>
      have ec : cols (f :: r) = cols r := by unfold cols; rw [List.filter_cons_of_neg (by rw [q]; decide)]
      rw [ec] at h ⊢
      have : tellStep t f = t := by unfold tellStep; unfold isCol at q; rw [q]; rfl
      rw [this]; exact tell_cols r t h
    | true =>
      have ec : cols (f :: r) = f :: cols r := by unfold cols; rw [List.filter_cons_of_pos q]
      rw [ec] at h ⊢
      have hn : t.any (fun x => x.1 = f.1) = false := by
        rw [List.any_eq_false]
        intro x hx e
        rw [List.map_append, List.nodup_append] at h
        have e' : x.1 = f.1 := by simpa using e
        exact h.2.2 x.1 (List.mem_map.mpr ⟨x, hx, rfl⟩) f.1 (by simp) e'
      have : tellStep t f = t ++ [f] := by unfold tellStep storeF; unfold isCol at q; rw [q, hn]; rfl
      rw [this, tell_cols r (t ++ [f]) (by simpa using h)]
      simp
theorem tell_eq {l : List Fld} (h : lawPlain l = true) : tellOf l = cols l := by
  have := (plain_cols l false [] (plain_go h)).2.1
  unfold tellOf
  rw [tell_cols l [] (by simpa using this)]; rfl
theorem lookup_nodup {k v : Bs} : ∀ {t : List Fld}, (t.map (·.1)).Nodup → (k, v) ∈ t → t.lookup k = some v
  | [], _, h => by cases h
  | (x, y) :: r, hn, h => by
    rw [List.map_cons, List.nodup_cons] at hn
    rw [List.lookup_cons]
    cases q : k == x with
    | true =>
      rcases List.mem_cons.mp h with e | e
      · cases e; rfl
      · exact absurd (List.mem_map.mpr ⟨_, e, eq_of_beq q⟩) hn.1
    | false =>
      rcases List.mem_cons.mp h with e | e
      · cases e; simp at q
      · exact lookup_nodup hn.2 e
theorem hits_self {t2 : List Fld} (hn : (t2.map (·.1)).Nodup) : ∀ {t1 : List Fld}, (∀ f ∈ t1, f ∈ t2) → hitsB t2 t1 = true
  | [], _ => rfl
  | (k, v) :: r, h => by
    unfold hitsB
    rw [lookup_nodup hn (h (k, v) (.head _))]
    show (v == v && hitsB t2 r) = true
    rw [hits_self hn fun f hf => h f (.tail _ hf)]; simp
theorem eqDict_self {t : List Fld} (hn : (t.map (·.1)).Nodup) : eqDict t t = true := by
  unfold eqDict; rw [hits_self hn fun f hf => hf]; simp

/-! requests -/
theorem map_const {α β : Type} (o : Option α) (t : β) : (o.map fun _ => t) = if o.isSome then some t else none := by cases o <;> rfl
theorem lenOf_some (l : List Fld) : (lenOf l).isSome = lawLens l := by rw [lenOf_same]; cases lawLens l <;> rfl
theorem named_same (t l : List Fld) : (badAuth t l) = badNamed2 (named2 t l) (valuesOf l nHost) := by
  unfold badAuth namedOf named2
  have len0' : ∀ b : Bs, ((b.length : Int) == 0) = (b == []) := fun b => by rw [len0]; cases b <;> rfl
  generalize valuesOf l nHost = hs
  cases t.lookup nAuth with
  | none =>
    show badNamed ([] ++ hs) hs = badNamed2 (hs ++ []) hs
    rw [List.nil_append, List.append_nil]
    cases hs with
    | nil => rfl
    | cons x r =>
      cases r with
      | nil =>
        unfold badNamed badNamed2
        simp only [List.getLast_singleton, len0', List.any_cons, List.any_nil]
        simp
      | cons y r =>
        unfold badNamed badNamed2
        have : decide ((1 : Int) < ((x :: y :: r).length : Nat)) = true := by simp; omega
        rw [this]; rfl
  | some a =>
    show badNamed ([a] ++ hs) hs = badNamed2 (hs ++ [a]) hs
    cases hs with
    | nil =>
      unfold badNamed badNamed2
      simp only [List.singleton_append, List.nil_append, List.getLast_singleton, len0', List.any_cons, List.any_nil]
      simp
    | cons x r =>
      cases r with
      | nil =>
        unfold badNamed badNamed2
        simp only [List.singleton_append, List.cons_append, List.nil_append, List.getLast_cons_cons, List.getLast_singleton, len0', List.any_cons, List.any_nil, beq_self_eq_true, Bool.not_true, Bool.false_or, Bool.or_false]
        cases q : a == x with
        | false => simp
        | true =>
          have := eq_of_beq q
          subst this
          cases a == [] <;> rfl
      | cons y r =>
        unfold badNamed badNamed2
        have : decide ((1 : Int) < ((x :: y :: r).length : Nat)) = true := by simp; omega
        rw [this]; rfl
theorem reqRest_same (t l : List Fld) (m s p : Bs) (hs : s ≠ bHttp) : reqRest t l m s p = if isReqRest t l m s p then some t else none := by
  unfold reqRest isReqRest
  rw [map_const, lenOf_some, named_same]
  have e : [bHttp, bHttps].contains s = (s == bHttps) := by
    rw [List.contains_cons, List.contains_cons]
    have : (s == bHttp) = false := by simpa using hs
    rw [this]; simp
  rw [e]
  unfold optB
  cases lawLens l <;> cases s == bHttps <;> cases badNamed2 (named2 t l) (valuesOf l nHost) <;> cases (cutOf p none (some 1) == [47]) <;> cases (p == [42]) <;> cases (m == bOptions) <;> rfl
theorem reqWith_same (t l : List Fld) (m : Bs) (hs : ∀ s, t.lookup nScheme = some s → s ≠ bHttp) : reqWith t l m = if (if m == [] then false else isReqWith t l m) then some t else none := by
  unfold reqWith isReqWith badTunnel reqThen optB
  have em : m.isEmpty = (m == []) := by cases m <;> rfl
  have ea : ((t.lookup nAuth).getD []).isEmpty = ((t.lookup nAuth).getD [] == []) := by cases (t.lookup nAuth).getD [] <;> rfl
  rw [em, ea]
  cases m == [] with
  | true => rfl
  | false =>
    simp only [Bool.false_eq_true, if_false]
    cases m == bConnect with
    | true =>
      simp only [if_true]
      cases (t.lookup nScheme).isSome <;> cases (t.lookup nPath).isSome <;> cases ((t.lookup nAuth).getD [] == []) <;> rfl
    | false =>
      simp only [Bool.false_eq_true, if_false]
      cases q1 : t.lookup nScheme with
      | none => rfl
      | some s =>
        cases t.lookup nPath with
        | none => rfl
        | some p => exact reqRest_same t l m s p (hs s q1)
theorem reqFit_ok (l : List Fld) (h : ∀ f ∈ l, f.1 = nScheme → f.2 ≠ bHttp) : reqFit l = true := by
  unfold reqFit checkReq isReq
  rw [pseudo_eq]
  cases q : lawPlain l with
  | false => rfl
  | true =>
    rw [tell_eq q]
    have hn := (plain_cols l false [] (plain_go q)).2.1
    have hs : ∀ s, (cols l).lookup nScheme = some s → s ≠ bHttp := fun s e => h _ (List.mem_filter.mp (lookup_fld e)).1 rfl
    generalize cols l = t at hn hs
    have e : (t.all fun f => reqNames.contains f.1) = !((t.map (·.1)).any fun n => !lawKnown.contains n) := by
      rw [List.any_map, show ((fun n => !lawKnown.contains n) ∘ fun x : Fld => x.1) = (fun x : Fld => !lawKnown.contains x.1) from rfl, ← List.not_all_eq_any_not, Bool.not_not]
      exact congrArg t.all (funext fun f => known_perm f.1)
    rw [e]
    simp only [Bool.true_and, Bool.not_true, Bool.false_or]
    cases (t.map (·.1)).any fun n => !lawKnown.contains n with
    | true => rfl
    | false =>
      simp only [Bool.not_false, if_true, Bool.false_eq_true, if_false]
      unfold reqOf
      cases t.lookup nMethod with
      | none => rfl
      | some m =>
        simp only []
        rw [reqWith_same t l m hs]
        cases (if m == [] then false else isReqWith t l m) with
        | false => rfl
        | true => show (true && eqDict t t) = true; rw [eqDict_self hn]; rfl
end


section
open PySem PySem.W PySem.Calls PyProof.Rows PySem.SeqAt

/-- what holds of all fields stays so when they are spoilt -/
theorem spoilt_all (P : Fld → Bool) {b : Bx} {l : List Fld} (hl : ∀ f ∈ l, P f = true) (hx : ∀ f ∈ extraL, P f = true) (hd : P ([], []) = true) (hb : ∀ f, P f = true → P (f.1, []) = true) : ∀ f ∈ (spoiltV b l).1, P f = true := by
  have hg : ∀ i, P (l.getD i ([], [])) = true := fun i => by
    rw [List.getD_eq_getElem?_getD]
    cases q : l[i]? with
    | none => exact hd
    | some f => exact hl f (List.mem_of_getElem? q)
  have he : ∀ i, P (extraAt i) = true := fun i => by
    unfold extraAt
    rw [List.getD_eq_getElem?_getD]
    cases q : extraL[i.toNat]? with
    | none => exact hd
    | some f => exact hx f (List.mem_of_getElem? q)
  intro f hf
  unfold spoiltV at hf
  dsimp only at hf
  split at hf
  · unfold spoil at hf
    split at hf
    · exact hl f hf
    split at hf
    · rcases List.mem_append.mp hf with hf | hf <;> exact hl f (cut_mem hf)
    split at hf
    · rcases List.mem_append.mp hf with hf | hf
      · exact hl f hf
      · rw [List.mem_singleton.mp hf]; exact hg _
    split at hf
    · rcases List.mem_cons.mp hf with rfl | hf
      · exact he 0
      · exact hl f hf
    · rcases List.mem_append.mp hf with hf | hf
      · rcases List.mem_append.mp hf with hf | hf
        · exact hl f (cut_mem hf)
        · rw [List.mem_singleton.mp hf]; exact hb _ (hg _)
      · exact hl f (cut_mem hf)
  split at hf
  · rcases List.mem_append.mp hf with hf | hf
    · exact hl f hf
    · rw [List.mem_singleton.mp hf]; exact he _
  · rcases List.mem_append.mp hf with hf | hf
    · exact hl f hf
    · simp only [List.mem_cons, List.not_mem_nil, or_false] at hf
      rcases hf with rfl | rfl <;> exact he _
noncomputable def notHttp (f : Fld) : Bool := !(f.1 == nScheme) || !(f.2 == bHttp)
theorem request_notHttp (b : Bx) (form : Int) : ∀ f ∈ (spoiltV b (requestV form)).1, f.1 = nScheme → f.2 ≠ bHttp := fun f hf h1 h2 => by
  have : notHttp f = true := spoilt_all notHttp (by
    unfold requestV
    repeat' split
    all_goals decide +kernel) (by decide +kernel) (by decide +kernel) (fun f _ => by show (!(f.1 == nScheme) || !(([] : Bs) == bHttp)) = true; rw [show ((([] : Bs) == bHttp)) = false from by decide]; simp) f hf
  unfold notHttp at this
  rw [h1, h2] at this
  exact absurd this (by decide)
theorem reqRight_true (b : Bx) : (reqRight b).1 = true := reqFit_ok _ (request_notHttp _ _)

/-! answers -/
noncomputable def statsL : List Bs := [[50, 48, 48], [49, 48, 51], [52, 48, 52], [50, 48], [50, 120, 48], [48, 57, 57], [51, 48, 52], []]
noncomputable def fourL : List Bs := [[50, 48, 48], [49, 48, 51], [52, 48, 52], [51, 48, 52]]
noncomputable def bServer : Bs := [115, 101, 114, 118, 101, 114]
noncomputable def ansFields (st : Bs) : List Fld := [(nStatus, st), (bServer, [115])]
noncomputable def colNames (l : List Fld) : List Bs := (cols l).map (·.1)
noncomputable def ans1 (l : List Fld) : Bool := lawPlain l && (colNames l == [nStatus])
noncomputable def firstV (l : List Fld) : Bs := match l with
  | [] => []
  | f :: _ => f.2
noncomputable def ansGood (l : List Fld) : Bool := ans1 l && (fourL.contains (firstV l) && lawLens l)
theorem plain_head {l : List Fld} (h : lawPlain l = true) {f : Fld} {r : List Fld} (hc : cols l = f :: r) : ∃ t, l = f :: t := by
  cases l with
  | nil => cases hc
  | cons x t =>
    cases q : isCol x with
    | true =>
      have : cols (x :: t) = x :: cols t := by unfold cols; rw [List.filter_cons_of_pos q]
      rw [this] at hc; cases hc; exact ⟨t, rfl⟩
    | false =>
      exfalso
      have hg := plain_go h
      rw [foldT, lawStep_eq, q] at hg
      cases hf : okField x.1 x.2 with
      | false => rw [hf] at hg; cases hg
      | true =>
        rw [hf] at hg
        have := (plain_cols t true _ hg).2.2 rfl
        have ec : cols (x :: t) = cols t := by unfold cols; rw [List.filter_cons_of_neg (by rw [q]; decide)]
        rw [ec, this] at hc; cases hc
theorem answerWith_same (l : List Fld) (v : Bs) (h : statsL.contains v = true) : answerWith l v = if fourL.contains v && lawLens l then some (digitsOf v) else none := by
  have hm : v ∈ statsL := by simpa using h
  have key : ∀ n : Int, ((lenOf l).map fun _ => n) = if lawLens l then some n else none := fun n => by rw [map_const, lenOf_some]
  simp only [statsL, List.mem_cons, List.not_mem_nil, or_false] at hm
  rcases hm with rfl | rfl | rfl | rfl | rfl | rfl | rfl | rfl
  · exact key 200
  · exact key 103
  · exact key 404
  · rfl
  · rfl
  · rfl
  · exact key 304
  · rfl
theorem ans_same (l : List Fld) (h : ∀ f ∈ l, f.1 = nStatus → statsL.contains f.2 = true) : checkAns l = if ansGood l then some (digitsOf (firstV l)) else none := by
  unfold checkAns ansGood ans1
  rw [pseudo_eq]
  cases q : lawPlain l with
  | false => rfl
  | true =>
    have hn := (plain_cols l false [] (plain_go q)).2.1
    simp only [Bool.true_and]
    have hname : ∀ x : Bs, ([nStatus] : List Bs).contains x = (x == nStatus) := fun x => by rw [List.contains_cons]; simp
    cases hc : cols l with
    | nil =>
      unfold colNames
      rw [hc]; rfl
    | cons f r =>
      rw [hc, List.map_cons, List.nodup_cons] at hn
      cases r with
      | nil =>
        unfold colNames
        rw [hc]
        simp only [List.all_cons, List.all_nil, Bool.and_true, List.map_cons, List.map_nil, hname]
        cases q1 : f.1 == nStatus with
        | false =>
          have : (([f.1] : List Bs) == [nStatus]) = false := by rw [Bool.eq_false_iff]; intro e; simp at e; rw [e] at q1; simp at q1
          rw [this]; rfl
        | true =>
          have e1 := eq_of_beq q1
          have : (([f.1] : List Bs) == [nStatus]) = true := by rw [e1]; decide
          rw [this]
          simp only [if_true, Bool.true_and]
          obtain ⟨t, ht⟩ := plain_head q hc
          have hst : statusOf [f] = f.2 := by
            unfold statusOf
            obtain ⟨x, y⟩ := f
            have e1' : x = nStatus := e1
            subst e1'
            rw [List.lookup_cons, beq_self_eq_true]; rfl
          have hf1 : firstV l = f.2 := by rw [ht]; rfl
          have hf2 : f ∈ l := by rw [ht]; exact .head _
          rw [hst, hf1]
          exact answerWith_same l f.2 (h f hf2 e1)
      | cons f2 r2 =>
        have hall : ((f :: f2 :: r2).all fun x => ([nStatus] : List Bs).contains x.1) = false := by
          rw [List.all_cons, List.all_cons, hname, hname]
          cases q1 : f.1 == nStatus with
          | false => rfl
          | true =>
            cases q2 : f2.1 == nStatus with
            | false => rfl
            | true =>
              exact absurd (by rw [List.map_cons, eq_of_beq q1, eq_of_beq q2]; exact .head _) hn.1
        have hcn : (colNames l == [nStatus]) = false := by
          unfold colNames
          rw [hc, Bool.eq_false_iff]; intro e; simp at e
        rw [hall, hcn]; rfl
theorem trail_same (l : List Fld) : (pseudo l []).isSome = (lawPlain l && (colNames l).isEmpty) := by
  rw [pseudo_eq]
  unfold colNames
  cases lawPlain l with
  | false => rfl
  | true =>
    cases cols l with
    | nil => rfl
    | cons f r => rfl
end


section
open PySem PySem.W PySem.Calls PyProof.Rows PySem.SeqAt
variable {c : Cx} {a : Act} {g : Heap} {s : Shared} {σ : Sg}

theorem EqD.bytesL (n : Nat) : ∀ (xs ys : List Bs), EqAll n (xs.map .bytes) (ys.map .bytes) (xs == ys)
  | [], [] => .nil
  | [], y :: ys => .right _ _
  | x :: xs, [] => .left _ _
  | x :: xs, y :: ys => by
    have : (x :: xs == y :: ys) = ((x == y) && (xs == ys)) := rfl
    rw [this]; exact .cons (.bytes x y) (EqD.bytesL n xs ys)
/-- [name for name, value in l if name[:1] == b':'] == ns -/
theorem Ev.colEq {e1 e2 : Expr} {pos : Pos} {l : List Fld} {ns : List Bs} (h : Ev c a σ e1 (.ok (.lst ((l.filter isCol).map fun f => .bytes f.1), σ.own))) (h2 : Ev c a σ e2 (.ok (.lst (ns.map .bytes), σ.own))) (hm : behindInMarks .Eq e2 = false := by with_unfolding_all rfl) : Ev c a σ (.Compare e1 [.Eq] [e2] pos) (.ok (.bool (colNames l == ns), σ.own)) := by
  refine .cmp h h2 (.eq (.lst ?_)) hm
  have : ((l.filter isCol).map fun f => D.bytes f.1) = (colNames l).map .bytes := by unfold colNames cols; rw [List.map_map]; rfl
  rw [this]; exact EqD.bytesL _ _ _

theorem Body.ifSkip {test : Expr} {body rest : List Stmt} {pos : Pos} {r : Out D} {ω : Own} (h : Tr c a σ test (.ok (false, σ.own))) (h2 : Body c a σ rest r ω) : Body c a σ (.If test body [] pos :: rest) r ω := .step (.ifF (σ := σ) (ω := σ.own) h .nil) h2
noncomputable def keepB (f : Fld) (b : Bx) : Bool := if !(f.1 == nStatus) then true else (takeV b 4).1 == 0
noncomputable def nextB (f : Fld) (b : Bx) : Bx := if !(f.1 == nStatus) then b else (takeV b 4).2
noncomputable def restV : Bx → List Fld → List Fld × Bx
  | b, [] => ([], b)
  | b, f :: r => if keepB f b then (f :: (restV (nextB f b) r).1, (restV (nextB f b) r).2) else restV (nextB f b) r
theorem nextB_ok {f : Fld} {b : Bx} (h : b.Ok) : (nextB f b).Ok := by
  unfold nextB; split
  · exact h
  · exact (take_ok h (many := 4) (by decide)).1
theorem rest_ok : ∀ (l : List Fld) (b : Bx), b.Ok → (restV b l).2.Ok ∧ (∀ f ∈ (restV b l).1, f ∈ l) ∧ (restV b l).1.length ≤ l.length
  | [], b, h => ⟨h, by simp [restV], by simp [restV]⟩
  | f :: r, b, h => by
    obtain ⟨h1, h2, h3⟩ := rest_ok r (nextB f b) (nextB_ok h)
    unfold restV
    split
    · refine ⟨h1, fun x hx => ?_, by simpa using h3⟩
      rcases List.mem_cons.mp hx with rfl | hx
      · exact .head _
      · exact .tail _ (h2 x hx)
    · exact ⟨h1, fun x hx => .tail _ (h2 x hx), by simp; omega⟩
theorem rest_turns {b : Act} {p : Addr} {lc : List (PySem.Str × D)} {tp ep : Pos} {ifs : List Expr} (hx : Stores b "one") (nx : lc.lookup ("one" : PySem.Str) = none)
    (hT : ∀ (f : Fld) (bx : Bx), bx.Ok → ∀ ζ, Tst c b ⟨("one", fldD f) :: lc, [(p, bxD bx)] ++ ζ⟩ ifs (.ok (keepB f bx, [(p, bxD (nextB f bx))] ++ ζ))) : ∀ (l : List Fld) (bx : Bx), bx.Ok → CTurns c b lc (.Name "one" tp) ifs (.Name "one" ep) [(p, bxD bx)] (l.map fldD) (.ok ((restV bx l).1.map fldD, [(p, bxD (restV bx l).2)]))
  | [], bx, h => .nil
  | f :: r, bx, h => by
    have ih := rest_turns (tp := tp) (ep := ep) hx nx hT r (nextB f bx) (nextB_ok h)
    have hl : ∀ z d, lc.lookup z = some d → ((("one" : PySem.Str), fldD f) :: lc).lookup z = some d := fun z e h => by
      rw [List.lookup_cons]
      cases q : z == ("one" : PySem.Str) with
      | true => rw [eq_of_beq q, nx] at h; cases h
      | false => exact h
    have h0 := hT f bx h
    unfold restV
    cases q : keepB f bx with
    | true => rw [q] at h0; exact .take (fun ζ => .name hx) hl h0 (fun ζ => .name rfl) ih
    | false => rw [q] at h0; exact .skip (fun ζ => .name hx) hl h0 ih

theorem stat_get {i : Int} (h0 : 0 ≤ i) (h : i < 8) : (statsL.map D.bytes)[i.toNat]? = some (.bytes (statsL.getD i.toNat [])) := by
  have : i.toNat < statsL.length := by show i.toNat < 8; omega
  rw [List.getElem?_map, List.getElem?_eq_getElem this, List.getD_eq_getElem?_getD, List.getElem?_eq_getElem this]; rfl
theorem stat_in (i : Nat) : statsL.contains (statsL.getD i []) = true := by
  rw [List.getD_eq_getElem?_getD]
  cases q : statsL[i]? with
  | none => decide
  | some v => exact List.contains_iff_mem.mpr (List.mem_of_getElem? q)
theorem ansFields_fok {st : Bs} (h : statsL.contains st = true) : ∀ f ∈ ansFields st, fOk f = true := by
  have hm : st ∈ statsL := by simpa using h
  simp only [statsL, List.mem_cons, List.not_mem_nil, or_false] at hm
  rcases hm with rfl | rfl | rfl | rfl | rfl | rfl | rfl | rfl <;> decide +kernel
noncomputable def statOk (f : Fld) : Bool := !(f.1 == nStatus) || statsL.contains f.2
theorem ans_stat {st : Bs} (h : statsL.contains st = true) (b : Bx) : ∀ f ∈ (spoiltV b (ansFields st)).1, f.1 = nStatus → statsL.contains f.2 = true := fun f hf h1 => by
  have : statOk f = true := spoilt_all statOk (fun f hf => by
    unfold ansFields at hf
    simp only [List.mem_cons, List.not_mem_nil, or_false] at hf
    rcases hf with rfl | rfl
    · unfold statOk; rw [h]; simp
    · decide) (by decide +kernel) (by decide +kernel) (fun f _ => by show (!(f.1 == nStatus) || statsL.contains ([] : Bs)) = true; rw [show statsL.contains ([] : Bs) = true from by decide]; simp) f hf
  unfold statOk at this
  rw [h1] at this
  simpa using this
theorem four_dec {v : Bs} (h : fourL.contains v = true) : ∃ x, Dec v x (digitsOf v) := by
  have hm : v ∈ fourL := by simpa using h
  simp only [fourL, List.mem_cons, List.not_mem_nil, or_false] at hm
  rcases hm with rfl | rfl | rfl | rfl
  · exact ⟨_, dec_200⟩
  · exact ⟨_, dec_103⟩
  · exact ⟨_, dec_404⟩
  · exact ⟨_, dec_304⟩
noncomputable def ansL (b : Bx) : List Fld × Bx := spoiltV (takeV b 8).2 (ansFields (statsL.getD (takeV b 8).1.toNat []))
noncomputable def ansB (b : Bx) : Bx := sizeB (restV (ansL b).2 (ansL b).1).2

set_option maxHeartbeats 4000000 in
theorem ok_lanswer (R : Real c) (b : Bx) (hb : b.Ok) {p : Addr} (hown : σ.own = [(p, bxD b), (210, tabD 210)]) (hn : 10 ≤ a.n) :
    CallOk c a σ (.fn (fd c 208)) [.adr p] (.ok (.bool true, [(p, bxD (ansB b)), (210, grownD 210)])) := .mk fun g s v vs H hv hvs => by
  have hnd : p ≠ 210 := by have := H.own.apart; rw [hown] at this; simpa using this
  refine (call_fn (fn_law_answer_right R) (n := 9) (r := .ok (.bool true)) (ωi := [(p, bxD b), (210, tabD 210)]) (ωo := [(p, bxD (ansB b)), (210, grownD 210)]) (ω' := [(p, bxD (ansB b)), (210, grownD 210)]) rfl hn (fun q hq => by rw [hown]; exact hq) (by simpa using hnd) (fun q hq => .inr ⟨by simp only [List.mem_cons, List.not_mem_nil, or_false] at hq; rcases hq with rfl | rfl <;> simp, hq⟩) (by simpa using hnd) fun A m L fa F g0 s0 hm => ?_).run g s v vs H hv hvs
  clear H hv hvs v vs hown hn
  have k9 : 9 ≤ m := hm
  have k1 : 1 ≤ m := by omega
  have k2 : 2 ≤ m := by omega
  have k8 : 8 ≤ m := by omega
  have t1 := take_ok hb (many := 8) (by decide)
  have hst := stat_in (takeV b 8).1.toNat
  refine .step (.assign (d := .bytes (statsL.getD (takeV b 8).1.toNat [])) (ω := [(p, bxD (takeV b 8).2), (210, tabD 210)]) (.sub (x := .lst (statsL.map .bytes)) (.cast (by exact Ev.list (EvAll.cons (Ev.bytes _ _ _) (EvAll.cons (Ev.bytes _ _ _) (EvAll.cons (Ev.bytes _ _ _) (EvAll.cons (Ev.bytes _ _ _) (EvAll.cons (Ev.bytes _ _ _) (EvAll.cons (Ev.bytes _ _ _) (EvAll.cons (Ev.bytes _ _ _) (EvAll.cons (Ev.bytes _ _ _) EvAll.nil))))))))) (by rfl)) (.take R rfl hb (many := 8) (by decide) k1 (by exact EvAll.cons (Ev.name rfl) (EvAll.cons (Ev.int _ _ _) EvAll.nil)) rfl) (.lst t1.2.1 (by omega) (stat_get t1.2.1 t1.2.2))) (.inl rfl)) ?_
  unfold ansB ansL
  generalize statsL.getD (takeV b 8).1.toNat [] = st at hst ⊢
  obtain ⟨f1, f2, f3⟩ := spoiltV_facts t1.1 (ansFields_fok hst) (show 0 < 2 by decide) (show 2 ≤ 20 by decide)
  have hstat := ans_stat hst (takeV b 8).2
  refine .step (.assign (d := fldsD (spoiltV (takeV b 8).2 (ansFields st)).1) (ω := [(p, bxD (spoiltV (takeV b 8).2 (ansFields st)).2), (210, tabD 210)]) (.callBox R (.cons (.name rfl) (.cons (.cast (d' := fldsD (ansFields st)) (by exact Ev.list (EvAll.cons (Ev.tuple (EvAll.cons (Ev.bytes _ _ _) (EvAll.cons (Ev.name rfl) EvAll.nil))) (EvAll.cons (Ev.tuple (EvAll.cons (Ev.bytes _ _ _) (EvAll.cons (Ev.bytes _ _ _) EvAll.nil))) EvAll.nil))) (by rfl)) .nil)) (ok_spoilt R _ t1.1 (ansFields st) (show 0 < 2 by decide) (show 2 ≤ 100 by decide) lookup_here k2) rfl) (.inl rfl)) ?_
  generalize spoiltV (takeV b 8).2 (ansFields st) = sp at f1 f2 f3 hstat ⊢
  obtain ⟨l, bx⟩ := sp
  dsimp only at f1 f2 f3 hstat ⊢
  have hz := sm_of f2 f3
  have hL := lens_of f2
  clear t1 hst
  refine .asgn (d := .bool (ans1 l)) ?_ (.inl rfl) ?_
  · refine .cast (.bool_ (.and (.callFn R (.cons (.name rfl) .nil) (ok_lplain R l hz k1) rfl) fun _ => .one (.colEq (l := l) (ns := [nStatus]) (.compF isCol (fun f => .bytes f.1) (.name rfl) (.none rfl rfl rfl rfl) (by omega) rfl rfl rfl rfl (fun C g0 s0 f hf ζ => .one ?_) (fun C g0 s0 f _ _ ζ => ?_)) (by exact Ev.list (EvAll.cons (Ev.bytes _ _ _) EvAll.nil))))) (by rfl)
    · have h1 := hz.name f hf
      exact .cast (by exact Tr.cmp (Ev.slice2 (Ev.name rfl) Part.none (Part.lit _ _ _) (CutOk.bytes _ _ _ (by first | assumption | decide | omega | (dsimp only; omega) | (simp; done) | (simp; omega) | (simp only [actOf, compAct]; omega)) (fun _ => (fun _ => (fun _ => rfl))))) (Ev.bytes _ _ _) (Bin.eq (EqD.bytes _ _))) (by rfl)
    · exact Ev.name rfl
  refine .asgn (d := .bool (ansGood l)) ?_ (.inl rfl) ?_
  · unfold ansGood
    cases q : ans1 l with
    | false => exact .bool_ (.stop (b := false) (.name rfl) (.inl ⟨rfl, rfl⟩))
    | true =>
      obtain ⟨f, r, rfl⟩ : ∃ f r, l = f :: r := by
        cases l with
        | nil => exact absurd q (by decide)
        | cons f r => exact ⟨f, r, rfl⟩
      refine .cast (.bool_ (.and (b := true) (.name rfl) fun _ => .and (.cmp (x := .bytes f.2) (.sub (x := fldD f) (.sub (x := .lst (fldD f :: r.map fldD)) (.name rfl) (.int _ _ _) (.lst (by decide) (by decide) rfl)) (.int _ _ _) (.tup (by decide) (by decide) rfl)) (by exact Ev.tuple (EvAll.cons (Ev.bytes _ _ _) (EvAll.cons (Ev.bytes _ _ _) (EvAll.cons (Ev.bytes _ _ _) (EvAll.cons (Ev.bytes _ _ _) EvAll.nil))))) (.inTupB _ fourL)) fun _ => .one (.callFn R (.cons (.name rfl) .nil) (ok_llens R (f :: r) hz hL k2) rfl))) ?_
      rfl
  have hans := ans_same l hstat
  refine .asgn (d := codeD (outO .int (checkAns l))) (.callFn R (.cons (.fn R rfl rfl rfl (by decide)) (.cons (.name rfl) .nil)) (ok_code R (n := 7) trivial (fun A m L fa F g0 s0 hm => ok_answer R l hz hm) k8) rfl) (.inl rfl) ?_
  refine .ifSkip (.cast (b := !true) (.cmp (x := codeD (outO .int (checkAns l))) (y := codeD (outO .int (checkAns l))) (.name rfl) ?_ (.ne ?_)) rfl) ?_
  · rw [hans]
    cases q : ansGood l with
    | false => exact .ifF (ω := [(p, bxD bx), (210, tabD 210)]) (.plain (b := false) (.name rfl)) (by exact Ev.tuple (EvAll.cons (Ev.str _ _ _) (EvAll.cons (Ev.int _ _ _) EvAll.nil)))
    | true =>
      obtain ⟨f, r, rfl⟩ : ∃ f r, l = f :: r := by
        cases l with
        | nil => exact absurd q (by decide)
        | cons f r => exact ⟨f, r, rfl⟩
      have h4 : fourL.contains f.2 = true := by
        unfold ansGood at q
        rw [Bool.and_eq_true, Bool.and_eq_true] at q
        exact q.2.1
      obtain ⟨x, hd⟩ := four_dec h4
      exact .ifT (ω := [(p, bxD bx), (210, tabD 210)]) (.plain (b := true) (.name rfl)) (.tuple (.cons (.str _ _ _) (.cons (.callFn R (.cons (.sub (x := fldD f) (.sub (x := .lst (fldD f :: r.map fldD)) (.name rfl) (.int _ _ _) (.lst (by decide) (by decide) rfl)) (.int _ _ _) (.tup (by decide) (by decide) rfl)) .nil) (ok_ldigits R f.2 hd k1) rfl) .nil)) (by simp))
  · rw [hans]
    cases ansGood l with
    | false => exact EqD.tup (b := true) (.cons (b := ("refused" : PySem.Str) == "refused") (.str _ _) (.cons (b := (270 : Int) == 270) (.int _ _) .nil))
    | true => exact EqD.tup (b := true) (.cons (b := ("given" : PySem.Str) == "given") (.str _ _) (by simpa using EqAll.cons (n := 7) (.int (digitsOf (firstV l)) (digitsOf (firstV l))) .nil))
  have hz' : (l.map fldD).length ≤ 1000 := by rw [List.length_map]; omega
  refine .step (Ex.assignComp (o := .ok ((restV bx l).1.map fldD, [(p, bxD (restV bx l).2)])) (ω := [(p, bxD bx), (210, tabD 210)]) (ωi := [(p, bxD bx)]) (ω' := [(p, bxD (restV bx l).2), (210, tabD 210)]) (ds := l.map fldD) (d := fldsD l) (.name rfl) (.lst _) (.of [("box", _, .adr p)] rfl ⟨rfl, rfl, .inl rfl, .inl rfl, trivial⟩ rfl rfl rfl) (by simp) (by simp) hz' (fun C g0 s0 => rest_turns (.inl rfl) rfl (fun f bx hbx ζ => .one ?_) l bx f1) (fun q hq => ?_) (by simpa using hnd) (.inl rfl)) ?_
  · unfold keepB nextB
    cases q : !(f.1 == nStatus) with
    | true => exact .bool (.stop (.cast (.cmp (x := .bytes f.1) (.sub (x := fldD f) (.name rfl) (.int _ _ _) (.tup (by decide) (by decide) rfl)) (.bytes _ _ _) (.ne (.bytes _ _))) q) (.inr ⟨rfl, rfl⟩))
    | false =>
      refine .bool (.go (ω := [(p, bxD bx)] ++ ζ) (.cast (.cmp (x := .bytes f.1) (.sub (x := fldD f) (.name rfl) (.int _ _ _) (.tup (by decide) (by decide) rfl)) (.bytes _ _ _) (.ne (.bytes _ _))) q) (.inr ⟨rfl, rfl⟩) ?_)
      show TrL _ _ _ _ _ (.ok ((takeV bx 4).1 == 0, [(p, bxD (takeV bx 4).2)] ++ ζ))
      cases q2 : (takeV bx 4).1 == 0 with
      | true => exact .stop (.cast (.cmp (x := .int (takeV bx 4).1) (.take R rfl hbx (many := 4) (by decide) k1 (by exact EvAll.cons (Ev.name rfl) (EvAll.cons (Ev.int _ _ _) EvAll.nil)) rfl) (.int _ _ _) (.eq (.int _ _))) q2) (.inr ⟨rfl, rfl⟩)
      | false => exact .go (.cast (.cmp (x := .int (takeV bx 4).1) (.take R rfl hbx (many := 4) (by decide) k1 (by exact EvAll.cons (Ev.name rfl) (EvAll.cons (Ev.int _ _ _) EvAll.nil)) rfl) (.int _ _ _) (.eq (.int _ _))) q2) (.inr ⟨rfl, rfl⟩) .orN
  · simp only [List.mem_cons, List.not_mem_nil, or_false] at hq
    rcases hq with rfl | rfl
    · exact .inr ⟨by simp, fun es ωo e => by cases e; simp⟩
    · exact .inl ⟨by simp, by simpa using hnd.symm⟩
  obtain ⟨r1, r2, r3⟩ := rest_ok l bx f1
  generalize restV bx l = rr at r1 r2 r3 ⊢
  obtain ⟨rl, b3⟩ := rr
  dsimp only at r1 r2 r3 ⊢
  have hzr := sm_of (fun f hf => f2 f (r2 f hf)) (by omega)
  have hrl := hzr.len
  refine .asgn (d := .bool (lawPlain rl && (colNames rl).isEmpty)) ?_ (.inl rfl) ?_
  · refine .cast (.bool_ (.and (.callFn R (.cons (.name rfl) .nil) (ok_lplain R rl hzr k1) rfl) fun _ => .one (.eqNil (.compF (l := rl) isCol (fun f => .bytes f.1) (.name rfl) (.none rfl rfl rfl rfl) (by omega) rfl rfl rfl rfl (fun C g0 s0 f hf ζ => .one ?_) (fun C g0 s0 f _ _ ζ => ?_))))) ?_
    · have h1 := hzr.name f hf
      exact .cast (by exact Tr.cmp (Ev.slice2 (Ev.name rfl) Part.none (Part.lit _ _ _) (CutOk.bytes _ _ _ (by first | assumption | decide | omega | (dsimp only; omega) | (simp; done) | (simp; omega) | (simp only [actOf, compAct]; omega)) (fun _ => (fun _ => (fun _ => rfl))))) (Ev.bytes _ _ _) (Bin.eq (EqD.bytes _ _))) (by rfl)
    · exact Ev.name rfl
    · unfold colNames cols
      rw [List.isEmpty_map, List.isEmpty_map]
  refine .ifSkip (.cast (b := !true) (.cmp (x := codeD (boolOut (pseudo rl []).isSome)) (y := dueD (lawPlain rl && (colNames rl).isEmpty) .none) (.callFn R (.cons (.fn R rfl rfl rfl (by decide)) (.cons (.name rfl) .nil)) (ok_code R (n := 7) trivial (fun A m L fa F g0 s0 hm => ok_trailer R rl hzr hm) k8) rfl) ?_ (.ne (by rw [trail_same]; exact .due _))) rfl) ?_
  · exact .cast (.ite (.plain (.name rfl)) (fun _ => .tuple (.cons (.str _ _ _) (.cons (.none _ _) .nil))) (fun _ => .tuple (.cons (.str _ _ _) (.cons (.int _ _ _) .nil)))) rfl
  have hfs : ∀ f ∈ l.filter (fun f => f.1 == nCL), fOk f = true := fun f hf => f2 f (List.mem_filter.mp hf).1
  have hls : (l.filter (fun f => f.1 == nCL)).length ≤ l.length := List.length_filter_le _ _
  refine .ret (ω := [(p, bxD (sizeB b3)), (210, grownD 210)]) (.ret (.ret (.callFnO (ω₂ := [(p, bxD b3), (210, tabD 210)]) R (.cons (.name rfl) (.cons (d := fldsD (l.filter (fun f => f.1 == nCL))) (.compV (ωo := []) (ds := l.map fldD) (.name rfl) (.lst _) (.none rfl rfl rfl rfl) hz' (fun C g0 s0 => .over fldD (fun f => [("one", fldD f)]) (fun f => f.1 == nCL) fldD l (fun f _ ζ => .name (.inl rfl)) (fun f _ z e h => by cases h) (fun f hf ζ => .one ?_) (fun f hf _ ζ => .name rfl))) .nil)) (ok_lsize R b3 r1 _ (sm_of hfs (by omega)) (lens_of hfs) (fun f hf => by have := (List.mem_filter.mp hf).2; simpa using this) rfl k9) rfl))) (by simp)
  exact .cmp (x := .bytes f.1) (.sub (x := fldD f) (.name rfl) (.int _ _ _) (.tup (by decide) (by decide) rfl)) (.bytes _ _ _) (.eq (.bytes _ _))
end


section
open PySem PySem.W PySem.Calls PyProof.Rows PySem.SeqAt
variable {c : Cx} {a : Act} {g : Heap} {s : Shared} {σ : Sg}

/-! enumerate over fields -/
noncomputable def enumF {α : Type} (P : Int → Fld → Bool) (el : Int → Fld → α) : Nat → List Fld → List α
  | _, [] => []
  | i, f :: r => if P i f then el i f :: enumF P el (i + 1) r else enumF P el (i + 1) r
theorem PTurns.enumF {α : Type} {b : Act} {lc : List (PySem.Str × D)} {x y : PySem.Str} {p q r : Pos} {k : Nat} {ifs : List Expr} {elt : Expr} (fd : α → D) (P : Int → Fld → Bool) (el : Int → Fld → α) (hx : Stores b x) (hy : Stores b y) (nx : lc.lookup x = Option.none) (ny : lc.lookup y = Option.none) : ∀ (l : List Fld) (i : Nat),
    (∀ (i : Int), ∀ f ∈ l, ∀ ζ, Tst c b ⟨(y, fldD f) :: (x, .int i) :: lc, ζ⟩ ifs (.ok (P i f, ζ))) → (∀ (i : Int), ∀ f ∈ l, ∀ ζ, Ev c b ⟨(y, fldD f) :: (x, .int i) :: lc, ζ⟩ elt (.ok (fd (el i f), ζ))) →
    PTurns c b lc (.Tuple [.Name x p, .Name y q] k r) ifs elt (enumD i (l.map fldD)) ((Mine.enumF P el i l).map fd)
  | [], i, _, _ => .nil
  | f :: l, i, hT, hE => by
    have hl : ∀ z d, lc.lookup z = some d → ((y, fldD f) :: (x, D.int (i : Int)) :: lc).lookup z = some d := fun z e h => by
      rw [List.lookup_cons]
      cases q : z == y with
      | true => rw [eq_of_beq q, ny] at h; cases h
      | false =>
        dsimp only; rw [List.lookup_cons]
        cases q : z == x with
        | true => rw [eq_of_beq q, nx] at h; cases h
        | false => exact h
    have ih := PTurns.enumF (p := p) (q := q) (r := r) (k := k) (lc := lc) fd P el hx hy nx ny l (i + 1) (fun i f hf => hT i f (.tail _ hf)) (fun i f hf => hE i f (.tail _ hf))
    have h0 := hT i f (.head _)
    unfold Mine.enumF
    rw [List.map_cons]
    unfold enumD
    cases q : P i f with
    | true => rw [q] at h0; exact .take (fun ζ => .pair hx hy) hl h0 (hE i f (.head _)) ih
    | false => rw [q] at h0; exact .skip (fun ζ => .pair hx hy) hl h0 ih
theorem enumF_mem {P : Int → Fld → Bool} : ∀ (l : List Fld) (i : Nat), ∀ f ∈ Mine.enumF P (fun _ f => f) i l, f ∈ l
  | [], i, f, h => by cases h
  | x :: r, i, f, h => by
    unfold enumF at h
    split at h
    · rcases List.mem_cons.mp h with rfl | h
      · exact .head _
      · exact .tail _ (enumF_mem r (i + 1) f h)
    · exact .tail _ (enumF_mem r (i + 1) f h)
theorem enumF_len {α : Type} {P : Int → Fld → Bool} {el : Int → Fld → α} : ∀ (l : List Fld) (i : Nat), (Mine.enumF P el i l).length ≤ l.length
  | [], i => by simp [enumF]
  | x :: r, i => by
    have := enumF_len (P := P) (el := el) r (i + 1)
    unfold enumF
    split
    · simp; omega
    · simp; omega
theorem EqD.fldsSelf (l : List Fld) : EqD 8 (fldsD l) (fldsD l) true := by
  refine .lst ?_
  induction l with
  | nil => exact .nil
  | cons f r ih =>
    have h1 : EqD 7 (fldD f) (fldD f) true := .tup (by simpa using EqAll.cons (n := 6) (.bytes f.1 f.1) (.cons (.bytes f.2 f.2) .nil))
    exact (by simpa using EqAll.cons h1 ih)

/-! what the small law draws -/
noncomputable def methL : List Bs := [bGet, bHead, bConnect]
noncomputable def someL : List Fld := [(nCookie, [97, 61, 49]), ([110], [118]), (nCookie, [98, 61, 50]), ([111], [])]
noncomputable def someAt (i : Int) : Fld := someL.getD i.toNat ([], [])
theorem meth_get {i : Int} (h0 : 0 ≤ i) (h : i < 3) : (methL.map D.bytes)[i.toNat]? = some (.bytes (methL.getD i.toNat [])) := by
  have : i.toNat < methL.length := by show i.toNat < 3; omega
  rw [List.getElem?_map, List.getElem?_eq_getElem this, List.getD_eq_getElem?_getD, List.getElem?_eq_getElem this]; rfl
theorem some_get {i : Int} (h0 : 0 ≤ i) (h : i < 4) : (someL.map fldD)[i.toNat]? = some (fldD (someAt i)) := by
  have : i.toNat < someL.length := by show i.toNat < 4; omega
  unfold someAt
  rw [List.getElem?_map, List.getElem?_eq_getElem this, List.getD_eq_getElem?_getD, List.getElem?_eq_getElem this]; rfl
noncomputable def spotsOf (row : List Fld) : List Int := enumF (fun _ f => f.1 == nCookie) (fun i _ => i) 0 row
noncomputable def due1 (row : List Fld) : List Fld := enumF (fun i f => !(f.1 == nCookie) || (i == (spotsOf row).getD 0 0)) (fun _ f => f) 0 row
noncomputable def dueF (row : List Fld) (f : Fld) : Fld := (f.1, if f.1 == nCookie then joinB [59, 32] (valuesOf row nCookie) else f.2)
noncomputable def due2 (row : List Fld) : List Fld := (due1 row).map (dueF row)
noncomputable def plainSize (row : List Fld) : Int := (row.map fun f => ((f.1.length : Int) + f.2.length)).sum
/-- all that is asked of a row -/
noncomputable def rowFit (row : List Fld) : Bool := (cookOf row == due2 row) && ((sizeOf row == plainSize row + 96) && ((row.all fun f => !(f.1 == nCookie) || (decide (1 ≤ (valuesOf row nCookie).length) && !(Builtin.Bytes.tooLong ((((valuesOf row nCookie).map List.toArray).toArray.foldl (· + ·.size) ((([59, 32] : Bs).toArray.size) * ((((valuesOf row nCookie).map List.toArray).toArray.size) - 1))))) && decide ((joinB [59, 32] (valuesOf row nCookie)).length ≤ 1000) && !(spotsOf row).isEmpty)) && row.all fun f => decide (f.1.length ≤ 50) && decide (f.2.length ≤ 50)))
theorem rows_fit : ∀ i j k : _root_.Fin 4, rowFit [someL.getD i.val ([], []), someL.getD j.val ([], []), someL.getD k.val ([], [])] = true := by decide +kernel
theorem rowFit_at {i j k : Int} (hi : 0 ≤ i ∧ i < 4) (hj : 0 ≤ j ∧ j < 4) (hk : 0 ≤ k ∧ k < 4) : rowFit [someAt i, someAt j, someAt k] = true :=
  rows_fit ⟨i.toNat, by omega⟩ ⟨j.toNat, by omega⟩ ⟨k.toNat, by omega⟩

theorem rowFit_facts {row : List Fld} (h : rowFit row = true) (hl : row.length ≤ 50) : cookOf row = due2 row ∧ sizeOf row = plainSize row + 96 ∧ Sm row ∧ ∀ f ∈ row, f.1 = nCookie → JoinOk [59, 32] (valuesOf row nCookie) ∧ ∃ x r, spotsOf row = x :: r := by
  unfold rowFit at h
  simp only [Bool.and_eq_true, List.all_eq_true, beq_iff_eq, decide_eq_true_eq] at h
  obtain ⟨h1, h2, h3, h4⟩ := h
  refine ⟨h1, h2, ⟨hl, fun f hf => (h4 f hf).1, fun f hf => (h4 f hf).2⟩, fun f hf e => ?_⟩
  have := h3 f hf
  rw [show (f.1 == nCookie) = true from by rw [e]; simp] at this
  simp only [Bool.not_true, Bool.false_or, Bool.and_eq_true, decide_eq_true_eq, Bool.not_eq_true'] at this
  obtain ⟨⟨⟨j1, j2⟩, j3⟩, j4⟩ := this
  refine ⟨⟨j1, j2, j3⟩, ?_⟩
  cases q : spotsOf row with
  | nil => rw [q] at j4; cases j4
  | cons x r => exact ⟨x, r, rfl⟩
noncomputable def smallB1 (b : Bx) : Bx := (takeV (takeV b 300).2 3).2
noncomputable def smallB (b : Bx) : Bx := (takeV (takeV (takeV (smallB1 b) 4).2 4).2 4).2
noncomputable def rowV (b : Bx) : List Fld := [someAt (takeV b 4).1, someAt (takeV (takeV b 4).2 4).1, someAt (takeV (takeV (takeV b 4).2 4).2 4).1]
theorem noPylong100 (i : Int) : PySem.Builtin.divisionGoesByPylong i 100 = false := by
  unfold PySem.Builtin.divisionGoesByPylong
  simp only
  rw [show (decide ((if (100 : Int) == 0 then 0 else (100 : Int).natAbs.log2 / 30 + 1) > 300)) = false from by decide +kernel]
  rfl
noncomputable def dueBody (me : Bs) (st : Int) : Bool := (me == bHead) || (([204, 304] : List Int).contains st || ((me == bConnect) && (st.fdiv 100 == 2)))
theorem body_same (me : Bs) (st : Int) : noBody me st = dueBody me st := by
  unfold noBody dueBody
  have : (st.fdiv 100 == 2) = (decide (200 ≤ st) && decide (st < 300)) := by
    rw [Int.fdiv_eq_ediv_of_nonneg _ (by decide), Bool.eq_iff_iff]
    simp
    omega
  rw [this]
noncomputable def dueInterim (st : Int) : D := if st == 101 then .tup [.str "refused", .int 270] else .tup [.str "given", .bool (decide (st < 200))]
theorem eqd_interim {st : Int} (h : 100 ≤ st) : EqD 8 (codeD (interim st)) (dueInterim st) true := by
  unfold interim dueInterim
  cases st == 101 with
  | true => exact EqD.tup (b := true) (.cons (b := ("refused" : PySem.Str) == "refused") (.str _ _) (.cons (b := (270 : Int) == 270) (.int _ _) .nil))
  | false =>
    have e : (decide (100 ≤ st) && decide (st < 200)) = decide (st < 200) := by rw [decide_eq_true h]; rfl
    show EqD 8 (.tup [.str "given", .bool (decide (100 ≤ st) && decide (st < 200))]) (.tup [.str "given", .bool (decide (st < 200))]) true
    rw [e]
    exact EqD.tup (b := true) (.cons (b := ("given" : PySem.Str) == "given") (.str _ _) (by simpa using EqAll.cons (n := 7) (.bool (decide (st < 200)) (decide (st < 200))) .nil))

set_option maxHeartbeats 4000000 in
theorem ok_lsmall (R : Real c) (b : Bx) (hb : b.Ok) {p : Addr} (hp : σ.own.lookup p = some (bxD b)) (hn : 6 ≤ a.n) : CallOk c a σ (.fn (fd c 220)) [.adr p] (.ok (.bool true, setOwn σ.own p (bxD (smallB b)))) := by
  refine call_box (fn_law_small_right R) (n := 5) (r := .ok (.bool true)) (b0 := bxD b) (b1 := bxD (smallB b)) rfl hn hp fun A m L fa F g0 s0 hm => ?_
  have k5 : 5 ≤ m := hm
  have k1 : 1 ≤ m := by omega
  have k2 : 2 ≤ m := by omega
  have t1 := take_ok hb (many := 300) (by decide)
  have t2 := take_ok t1.1 (many := 3) (by decide)
  refine .step (.assignTup (σ' := ⟨[("status", .int (100 + (takeV b 300).1)), ("method", .bytes (methL.getD (takeV (takeV b 300).2 3).1.toNat [])), ("box", .adr p)], [(p, bxD (smallB1 b))]⟩) (.tuple (.cons (.bin (.int _ _ _) (.take R rfl hb (many := 300) (by decide) k1 (by exact EvAll.cons (Ev.name rfl) (EvAll.cons (Ev.int _ _ _) EvAll.nil)) rfl) (.add _ _)) (.cons (.sub (x := .lst (methL.map .bytes)) (.cast (by exact Ev.list (EvAll.cons (Ev.bytes _ _ _) (EvAll.cons (Ev.bytes _ _ _) (EvAll.cons (Ev.bytes _ _ _) EvAll.nil)))) (by rfl)) (.take R rfl t1.1 (many := 3) (by decide) k1 (by exact EvAll.cons (Ev.name rfl) (EvAll.cons (Ev.int _ _ _) EvAll.nil)) rfl) (.lst t2.2.1 (by omega) (meth_get t2.2.1 t2.2.2))) .nil)) (by simp)) ?_) ?_
  · first
      | exact .inr ⟨["status", "method"], rfl, rfl, .bind (.inl rfl) (.bind (.inl rfl) .nil)⟩
      | exact .inl ⟨rfl, .tuple (.cons (.name (.inl rfl)) (.cons (.name (.inl rfl)) .nil))⟩
  have hst : 100 ≤ 100 + (takeV b 300).1 := by omega
  have hb1 : (smallB1 b).Ok := t2.1
  unfold smallB
  generalize 100 + (takeV b 300).1 = st at hst ⊢
  generalize methL.getD (takeV (takeV b 300).2 3).1.toNat [] = me
  generalize smallB1 b = b1 at hb1 ⊢
  clear t1 t2
  refine .ifSkip (.cast (b := !true) (.cmp (x := codeD (interim st)) (y := dueInterim st) (.callFn R (.cons (.fn R rfl rfl rfl (by decide)) (.cons (.name rfl) .nil)) (ok_code R (n := 4) trivial (fun A m L fa F g0 s0 hm => ok_interim R st hm) k5) rfl) (.cast (.ite (by exact Tr.cmp (Ev.name rfl) (Ev.int _ _ _) (Bin.eq (EqD.int _ _))) (fun _ => by exact Ev.tuple (EvAll.cons (Ev.str _ _ _) (EvAll.cons (Ev.int _ _ _) EvAll.nil))) (fun _ => by exact Ev.tuple (EvAll.cons (Ev.str _ _ _) (EvAll.cons (Ev.cmp (Ev.name rfl) (Ev.int _ _ _) (Bin.lt _ _)) EvAll.nil)))) (by rfl)) (.ne (eqd_interim hst))) rfl) ?_
  refine .asgn (d := .bool (dueBody me st)) ?_ (.inl rfl) ?_
  · exact .cast (.bool_ (.or (by exact Ev.cmp (Ev.name rfl) (Ev.bytes _ _ _) (Bin.eq (EqD.bytes _ _))) fun _ => .or (by exact Ev.cmp (Ev.name rfl) (Ev.tuple (EvAll.cons (Ev.int _ _ _) (EvAll.cons (Ev.int _ _ _) EvAll.nil))) (Bin.inTupIc _ _)) fun _ => .one (.bool_ (.and (by exact Ev.cmp (Ev.name rfl) (Ev.bytes _ _ _) (Bin.eq (EqD.bytes _ _))) fun _ => .one (.cmp (x := .int (st.fdiv 100)) (.bin (.name rfl) (.int _ _ _) (.div _ _ (by decide) (noPylong100 _))) (by exact Ev.int _ _ _) (by exact Bin.eq (EqD.int _ _))))))) (by rfl)
  refine .ifSkip (.cast (b := !true) (.cmp (x := .bool (dueBody me st)) (y := .bool (dueBody me st)) (.cast (.callFn R (.cons (.name rfl) (.cons (.name rfl) .nil)) (ok_nobody R me st k1) rfl) (by rw [body_same])) (.name rfl) (.ne (by simpa using EqD.bool (n := 8) (dueBody me st) (dueBody me st)))) rfl) ?_
  refine .asgn (d := fldsD someL) (.cast (by exact Ev.list (EvAll.cons (Ev.tuple (EvAll.cons (Ev.bytes _ _ _) (EvAll.cons (Ev.bytes _ _ _) EvAll.nil))) (EvAll.cons (Ev.tuple (EvAll.cons (Ev.bytes _ _ _) (EvAll.cons (Ev.bytes _ _ _) EvAll.nil))) (EvAll.cons (Ev.tuple (EvAll.cons (Ev.bytes _ _ _) (EvAll.cons (Ev.bytes _ _ _) EvAll.nil))) (EvAll.cons (Ev.tuple (EvAll.cons (Ev.bytes _ _ _) (EvAll.cons (Ev.bytes _ _ _) EvAll.nil))) EvAll.nil))))) (by rfl)) (.inr ⟨rfl, rfl, _, rfl⟩) ?_
  have r1 := take_ok hb1 (many := 4) (by decide)
  have r2 := take_ok r1.1 (many := 4) (by decide)
  have r3 := take_ok r2.1 (many := 4) (by decide)
  have fit := rowFit_at r1.2 r2.2 r3.2
  have elt : ∀ {b : Act} {bx : Bx} {l₁ : List (PySem.Str × D)} {ζ : Own} {np n1 n2 q1 q2 lp : Pos}, bx.Ok → 1 ≤ b.n → l₁.lookup ("some" : PySem.Str) = some (fldsD someL) → l₁.lookup ("box" : PySem.Str) = some (.adr p) → b.env.kindOf "_law_take" = some .globalImplicit →
      (∀ x q es, starEach (.Name x q :: es) b.env = (false, eval (.Name x q) b.env) :: starEach es b.env) → (∀ x k q es, starEach (.Constant x k q :: es) b.env = (false, eval (.Constant x k q) b.env) :: starEach es b.env) → (∀ q x k q', (backTo q (starEach [.Constant x k q'] b.env)).any (·.1) = false) →
      Ev c b ⟨l₁, [(p, bxD bx)] ++ ζ⟩ (.Subscript (.Name "some" np) (.Call (.Name "_law_take" n1) [.Name "box" n2, .Constant (.int 4) 0 q1] [] q2) lp) (.ok (fldD (someAt (takeV bx 4).1), [(p, bxD (takeV bx 4).2)] ++ ζ)) := fun {b bx l₁ ζ np n1 n2 q1 q2 lp} hbx hn h1 h2 k he1 he2 hp => by
    have t := take_ok hbx (many := 4) (by decide)
    exact .sub (ω₁ := [(p, bxD bx)] ++ ζ) (x := fldsD someL) (y := .int (takeV bx 4).1) (.name h1) (.take (many := 4) R rfl hbx (by decide) hn (.cons (.name h2) (.cons (.int _ _ _) .nil (he2 _ _ _)) (he1 _ _)) k (he1 _ _ _) (hp _ _ _ _)) (.lst t.2.1 (by omega) (some_get t.2.1 t.2.2))
  refine .step (Ex.assignComp (o := .ok ((rowV b1).map fldD, [(p, bxD (takeV (takeV (takeV b1 4).2 4).2 4).2)])) (ω := [(p, bxD b1)]) (ωi := [(p, bxD b1)]) (ω' := [(p, bxD (takeV (takeV (takeV b1 4).2 4).2 4).2)]) (ds := [.int 0, .int 1, .int 2]) (d := .rng 3) (.call (f := .typ "range") trivial (.built R rfl rfl (fun _ => .typ _) (by decide) rfl (by decide)) (.cons (.int _ _ _) .nil) (.range 3 (by decide))) (.rng 3 (by decide)) (.of [("some", _, _), ("box", _, _)] rfl ⟨rfl, rfl, .inl rfl, .inl rfl, rfl, rfl, .inl rfl, .inl rfl, trivial⟩ rfl rfl rfl) (by simp) (by simp) (by simp)
    (fun C g0 s0 => turn1 (.inl rfl) rfl (fun ζ => elt hb1 k1 rfl rfl rfl (fun _ _ _ => rfl) (fun _ _ _ _ => rfl) (fun _ _ _ _ => rfl)) (turn1 (.inl rfl) rfl (fun ζ => elt r1.1 k1 rfl rfl rfl (fun _ _ _ => rfl) (fun _ _ _ _ => rfl) (fun _ _ _ _ => rfl)) (turn1 (.inl rfl) rfl (fun ζ => elt r2.1 k1 rfl rfl rfl (fun _ _ _ => rfl) (fun _ _ _ _ => rfl) (fun _ _ _ _ => rfl)) .nil)))
    (fun q hq => by rw [List.mem_singleton.mp hq]; exact .inr ⟨by simp, fun es ωo e => by cases e; simp⟩) (by simp) (.inl rfl)) ?_
  change rowFit (rowV b1) = true at fit
  have hrl : (rowV b1).length = 3 := rfl
  generalize (takeV (takeV (takeV b1 4).2 4).2 4).2 = bz
  generalize rowV b1 = row at fit hrl ⊢
  clear r1 r2 r3 elt hb1
  obtain ⟨e1, e2, hz, hj⟩ := rowFit_facts fit (by omega)
  have hz' : (row.map fldD).length ≤ 1000 := by rw [List.length_map]; omega
  refine .asgn (d := valsD (valuesOf row nCookie)) (.cast (.compF (fun f => f.1 == nCookie) (fun f => .bytes f.2) (.name rfl) (.none rfl rfl rfl rfl) (by omega) rfl rfl rfl rfl (fun C g0 s0 f hf ζ => .one (by exact Tr.cmp (Ev.name rfl) (Ev.bytes _ _ _) (Bin.eq (EqD.bytes _ _)))) (fun C g0 s0 f hf _ ζ => by exact Ev.name rfl)) (by unfold valsD valuesOf; rw [List.map_map]; rfl)) (.inr ⟨rfl, rfl, _, rfl⟩) ?_
  refine .asgn (d := .lst ((spotsOf row).map .int)) (.enumComp (.built R rfl rfl (fun _ => .typ _) (by decide) rfl (by decide)) (.cons (.name rfl) .nil) (.none rfl rfl rfl rfl) hz' (fun C g0 s0 => PTurns.enumF .int (fun _ f => f.1 == nCookie) (fun i _ => i) (.inl rfl) (.inl rfl) rfl rfl row 0 (fun i f hf ζ => .one (.cmp (x := .bytes f.1) (.sub (x := fldD f) (.name rfl) (.int _ _ _) (.tup (by decide) (by decide) rfl)) (.bytes _ _ _) (.eq (.bytes _ _)))) (fun i f hf ζ => .name rfl))) (.inr ⟨rfl, rfl, _, rfl⟩) ?_
  refine .step (.enumComp (.built R rfl rfl (fun _ => .typ _) (by decide) rfl (by decide)) (.cons (.name rfl) .nil) (.of [("spots", _, _)] rfl ⟨rfl, rfl, .inl rfl, .inl rfl, trivial⟩ rfl rfl rfl) hz' (fun C g0 s0 => PTurns.enumF fldD (fun i f => !(f.1 == nCookie) || (i == (spotsOf row).getD 0 0)) (fun _ f => f) (.inl rfl) (.inl rfl) rfl rfl row 0 (fun i f hf ζ => .one ?_) (fun i f hf ζ => .name rfl)) (.inl rfl)) ?_
  · refine .cast (.bool (.or (b := !(f.1 == nCookie)) (.cmp (x := .bytes f.1) (.sub (x := fldD f) (.name rfl) (.int _ _ _) (.tup (by decide) (by decide) rfl)) (.bytes _ _ _) (.ne (.bytes _ _))) fun q => .or (b := i == (spotsOf row).getD 0 0) (.cmp (x := .int i) (.name rfl) (.sub (x := .lst ((spotsOf row).map .int)) (.name rfl) (.int _ _ _) (.lst (by decide) (by decide) ?_)) (.eq (.int _ _))) fun _ => .orN)) (by rw [Bool.or_false])
    obtain ⟨x, r, hs⟩ := (hj f hf (by simpa using q)).2
    rw [hs]; rfl
  have hd1 := enumF_len (P := fun i f => !(f.1 == nCookie) || (i == (spotsOf row).getD 0 0)) (el := fun _ (f : Fld) => f) row 0
  have hd2 := enumF_mem (P := fun i f => !(f.1 == nCookie) || (i == (spotsOf row).getD 0 0)) row 0
  change (due1 row).length ≤ row.length at hd1
  change ∀ f ∈ due1 row, f ∈ row at hd2
  refine .step (.assignCompP (ωo := []) (d := fldsD (due1 row)) (es := ((due1 row).filter fun _ => true).map fun f => fldD (dueF row f)) (.name rfl) (.lst _) (.of [("values", _, _)] rfl ⟨rfl, rfl, .inl rfl, .inl rfl, trivial⟩ rfl rfl rfl) (by rw [List.length_map]; omega) (fun C g0 s0 => .flds (fun _ => true) (fun f => fldD (dueF row f)) (due1 row) (.inl rfl) (.inl rfl) rfl rfl (fun f hf ζ => .nil) (fun f hf _ ζ => ?_)) (.inl rfl)) ?_
  · refine .tuple (.cons (.name rfl) (.cons (.cast (.ite (b := f.1 == nCookie) (.cmp (.name rfl) (.bytes _ _ _) (.eq (.bytes _ _))) (fun q => .join (bs := valuesOf row nCookie) (.bytes _ _ _) (.cons (.name rfl) .nil) (hj f (hd2 f hf) (eq_of_beq q)).1) (fun _ => .name rfl)) ?_) .nil)) (by simp)
    show (if (f.1 == nCookie) = true then D.bytes _ else D.bytes f.2) = D.bytes (dueF row f).2
    unfold dueF
    cases f.1 == nCookie <;> rfl
  rw [show ((due1 row).filter fun _ => true).map (fun f => fldD (dueF row f)) = (due2 row).map fldD from by rw [filter_true]; unfold due2; rw [List.map_map]; rfl]
  refine .ret (ω := [(p, bxD bz)]) (.ret (.ret (.cast (d' := .bool true) (.bool_ (.and (b := true) (.cmp (x := fldsD (cookOf row)) (y := fldsD (due2 row)) (.callFn R (.cons (.name rfl) .nil) (ok_cook R row hz (fun f hf e => (hj f hf e).1) k2) rfl) (.name rfl) (.eq (by rw [e1]; exact .fldsSelf _))) fun _ => .one (.cmp (x := .int (sizeOf row)) (y := .int (plainSize row + 96)) (.callFn R (.cons (.name rfl) .nil) (ok_size R row hz k1) rfl) (.bin (.sumL (ns := row.map fun f => ((f.1.length : Int) + f.2.length)) R (.cast (.compF (fun _ => true) (fun f => .int ((f.1.length : Int) + f.2.length)) (.name rfl) (.none rfl rfl rfl rfl) (by omega) rfl rfl rfl rfl (fun C g0 s0 f _ ζ => .nil) (fun C g0 s0 f hf _ ζ => ?_)) ?_) rfl) (.int _ _ _) (.add _ _)) (.eq (.int _ _))))) ?_))) (by simp)
  · have h1 := hz.name f hf
    have h2 := hz.val f hf
    exact .cast (by exact Ev.bin (Ev.len2 (by assumption) (EvAll.cons (Ev.name rfl) EvAll.nil) (LenOk.bytes _ (by first | assumption | decide | omega | (dsimp only; omega) | (simp; done) | (simp; omega) | (simp only [actOf, compAct]; omega))) rfl) (Ev.len2 (by assumption) (EvAll.cons (Ev.name rfl) EvAll.nil) (LenOk.bytes _ (by first | assumption | decide | omega | (dsimp only; omega) | (simp; done) | (simp; omega) | (simp only [actOf, compAct]; omega))) rfl) (Bin.add _ _)) (by rfl)
  · rw [filter_true, List.map_map]; rfl
  · rw [e2]; simp
end


section
open PySem PySem.W PySem.Calls PyProof.Rows PySem.SeqAt
variable {c : Cx} {a : Act} {g : Heap} {s : Shared} {σ : Sg}

theorem reqRight_ok {b : Bx} (hb : b.Ok) : (reqRight b).2.Ok := by
  have t1 := take_ok hb (many := 4) (by decide)
  obtain ⟨q1, q2, q3⟩ := request_fok (takeV b 4).1
  exact (spoiltV_facts t1.1 q1 q2 q3).1
theorem ansB_ok {b : Bx} (hb : b.Ok) : (ansB b).Ok := by
  have t1 := take_ok hb (many := 8) (by decide)
  have hst := stat_in (takeV b 8).1.toNat
  have f1 := (spoiltV_facts t1.1 (ansFields_fok hst) (show 0 < 2 by decide) (show 2 ≤ 20 by decide)).1
  have r1 := (rest_ok (ansL b).1 (ansL b).2 f1).1
  have t2 := take_ok r1 (many := 3) (by decide)
  exact (take_ok t2.1 (many := 2) (by decide)).1

/-- the activation of the law itself -/
@[reducible] noncomputable def lawAct (c : Cx) (cd : Value) (L fa : Addr) (g0 : Heap) (s0 : Shared) : Act :=
  { A := callerA.deeper (envOf "law" (fd c 227).scope L fa cd), n := 12, env := envOf "law" (fd c 227).scope L fa cd, F := [L], g0 := g0, s0 := s0, box := [], full := true }
noncomputable def bx0 (ns : List Int) : Bx := ⟨cutOf ns none (some 40), 0, 31⟩
theorem bx0_ok {ns : List Int} (h : ns.length ≤ 63) : (bx0 ns).Ok :=
  ⟨by have := cut_len ns none (some 40); show (cutOf ns none (some 40)).length ≤ 100; omega, Nat.zero_le _, by show (0 : Int) ≤ 31; decide, by show (31 : Int) < 4294967296; decide⟩
set_option maxHeartbeats 4000000 in
theorem law_walk (R : Real c) (ns : List Int) (hlen : ns.length ≤ 63) {cd : Value} {L fa : Addr} {g0 : Heap} {s0 : Shared} :
    Exs c (lawAct c cd L fa g0 s0) ⟨[("script", .lst (ns.map .int))], [(210, tabD 210)]⟩ (bodyOf (fd c 227)) (.ok (.ret (.bool true) [(210, grownD 210)])) := by
  have hb := bx0_ok hlen
  have h1 := reqRight_ok hb
  have h2 := ansB_ok h1
  refine .assignN (EvN.box (ds := [.lst ((bx0 ns).ns.map .int), .int (bx0 ns).k, .int (bx0 ns).sd]) (.cons (.cast (.sliceL (b := ns.map .int) (.name rfl) .none (.lit 40 _ _) (by rw [List.length_map]; omega)) (by rw [cut_map]; rfl)) (.cons (.cast (.int 0 _ _) rfl) (.cons (.cast (.int 31 _ _) rfl) .nil))) (by simp)) (.inl rfl) fun p => ?_
  have hr : ∀ σ : Sg, σ.own.lookup p = some (bxD (bx0 ns)) → CallOk c (lawAct c cd L fa g0 s0) σ (.fn (fd c 203)) [.adr p] (.ok (.bool true, setOwn σ.own p (bxD (reqRight (bx0 ns)).2))) := fun σ hp => by
    have := ok_reqright (a := lawAct c cd L fa g0 s0) (σ := σ) R (bx0 ns) hb hp (show 9 ≤ 12 by decide)
    rw [reqRight_true] at this; exact this
  refine .drop (ω₁ := [(p, bxD (smallB (ansB (reqRight (bx0 ns)).2)))]) (.ret (.ret (.bool_ (.go (b := true) (ω := [(p, bxD (reqRight (bx0 ns)).2), (210, tabD 210)]) (.callBox R (.cons (.name rfl) .nil) (hr _ lookup_here) rfl) (.inl ⟨rfl, rfl⟩) (.go (b := true) (ω := [(p, bxD (ansB (reqRight (bx0 ns)).2)), (210, grownD 210)]) (.callFnO R (.cons (.name rfl) .nil) (ok_lanswer R _ h1 rfl (show 10 ≤ 12 by decide)) rfl) (.inl ⟨rfl, rfl⟩) (.one (.callBox R (.cons (.name rfl) .nil) (ok_lsmall R _ h2 lookup_here (show 6 ≤ 12 by decide)) rfl)))))))
end


section
open PySem PySem.W PySem.Calls PyProof.Rows PySem.SeqAt

theorem rdAll_ints {c : Cx} {g : Heap} : ∀ {vs : List Value} {ns : List Int}, IntsAre vs ns → RdAll c g vs (ns.map .int)
  | _, _, .nil => .nil
  | _, _, .cons _ _ h => .cons (.int _ _) (rdAll_ints h)
/-- the law, run: what the caller needs of it -/
theorem law_top {w : World} {G h₁ : Heap} {L fa : Addr} {cd : Value} {mg mb : PySem.Str → Option Value} {q : Program} {loose : List PySem.Str} {mean : ExcName → Option Value} {vs : List Value} {ns : List Int} {l : Addr} {s : Shared}
    (X : (KK w.params).In G) (T : Top q loose mean mg mb G) (F : Fr G L h₁ (fun x => List.lookup x [((PySem.Str.ofString "script"), Value.ref l)].reverse)) (N : News G L h₁ [(210, tabObj #[])])
    (hL : G.IsList l vs.toArray) (hI : IntsAre vs ns) (hlen : ns.length ≤ 63) {E : Value → Shared → Prop} :
    wpAny (model lawRow.prog w) (callerA.deeper (envOf (fdOf ((KK w.params).lookup 227)).name (fdOf ((KK w.params).lookup 227)).scope L fa cd)) (execs (bodyOf (fdOf ((KK w.params).lookup 227))) (envOf (fdOf ((KK w.params).lookup 227)).name (fdOf ((KK w.params).lookup 227)).scope L fa cd))
      (fun f s' => f = .ret (.bool true) ∧ (∀ b o, G.get? b = some o → s'.heap.get? b = some o) ∧ s'.os = s.os ∧ s'.gens = s.gens ∧ ∃ ps, s'.heap.get? 210 = some (tabObj ps)) E { s with heap := h₁ } := by
  have gm : G.get? mainGlobals = some _ := X 3 _ rfl
  let c : Cx := { prog := lawRow.prog, w := w, wd := fun h => G.StaysIn h, up := fun k x => fun b o e => k b o (x b o e), mg := mg, mb := mb, glob := fun k => T.g.keeps k, bltn := fun k => T.b.keeps k, nolim := fun k => T.nolimit.keeps k, mods := fun k => ⟨mainGlobals, _, by decide, k _ _ gm⟩, C := 31 }
  have R : Real c := ⟨fun h k a o e => k _ _ (X a o e), ⟨G, fun _ _ e => e⟩, T.builtins, rfl, fun h k => by
    obtain ⟨bm, ob, b1, b2, b3, b4, b5, b6⟩ := T.bmain
    exact ⟨bm, ob, b1, b2, fun e => (by rw [e, gm] at b3; cases b3; cases b6), k _ _ b3, b4, b5, b6⟩⟩
  have gL : G.get? L = none := Heap.get?_none_of_le F.above
  have ev : wpAny c.M _ _ _ _ _ := (law_walk R ns hlen (cd := cd) (L := L) (fa := fa) (g0 := G) (s0 := { s with heap := G })).run G { s with heap := h₁ }
    { ok := ⟨rfl, Nat.le_of_ble_eq_true rfl, Nat.le_of_ble_eq_true rfl, rfl, rfl, rfl, fun _ _ e => e, ⟨_, _, rfl, rfl, rfl⟩, ⟨_, rfl⟩, fun _ h => nomatch h⟩
      mv := ⟨fun _ _ e => e, F.keep, fun _ _ _ => rfl, fun b o e => ⟨o, F.keep b o e⟩, fun b o _ _ e => F.keep b o e, fun b m _ _ e => e.keeps F.keep, rfl, rfl⟩
      fr := ⟨_, rfl, rfl, fun env he => by
        cases he with
        | head => exact ⟨(fun q => nomatch (show ScopeKind.function = .module from q)), L, _, rfl, gL, F.ns⟩
        | tail _ h => cases h⟩
      ns := ⟨_, F.ns⟩
      nl := gL
      nb := List.not_mem_nil
      newL := gL
      newC := fun _ x b h => nomatch h
      cells := fun x b h => nomatch h
      cellsF := fun x b h => nomatch h
      cellsA := fun x y b h => nomatch h
      loc := fun x d e => by
        have e' : (match x == "script" with | true => some (D.lst (ns.map .int)) | false => none) = some d := e
        cases hx : x == ("script" : PySem.Str) with
        | false => rw [hx] at e'; cases e'
        | true =>
          rw [hx] at e'; cases e'
          obtain rfl := eq_of_beq hx
          exact ⟨.ref l, .loc rfl F.ns rfl, .lst hL (rdAll_ints hI)⟩
      own := ⟨fun p hp => by
        simp only [List.mem_singleton] at hp
        subst hp
        have n := (N _ (.head _)).1
        exact .raw ⟨_, n⟩ fun h' _ k => k _ n, fun p hp => by
        simp only [List.mem_singleton] at hp
        subst hp
        refine ⟨(N _ (.head _)).2.2, fun h => ?_⟩
        exact (N _ (.head _)).2.1 (List.mem_singleton.mp h), by simp⟩
      ownL := fun p hp => by
        simp only [List.mem_singleton] at hp
        subst hp
        exact ⟨(N _ (.head _)).2.1, (fun x h => nomatch (show (none : Option Addr) = _ from h)), .inr (N _ (.head _)).2.2⟩ }
  refine wpAny_mono ev (fun f s' x => ?_) fun e s' ⟨x, _⟩ => by cases x
  cases f with
  | ret v =>
    obtain ⟨d, ω, e, g', loc, k, H, r⟩ := x
    cases e
    cases r
    refine ⟨rfl, fun b o e => H.stays _ _ (k _ _ e), H.mv.os, H.mv.gens, ?_⟩
    have o := H.own.at_ (210, grownD 210) (.head _)
    unfold grownD at o
    cases o with
    | raw _ h => exact h _ H.stays fun _ e => e
  | next => obtain ⟨_, e, _⟩ := x; cases e
  | _ => exact x.elim
end

end Mine

open PySem PySem.W PyProof.Rows
set_option maxHeartbeats 8000000 in
theorem PySem.Challenge.cw_no0068_01_holds : PySem.Challenge.rw_no0068_01.Holds := by
  w_on
  have ws : PySem.Challenge.rw_no0068_01.wellSaid = true := by
    unfold OpenLaw.wellSaid OpenRow.wellSaid OpenRow.partSaid looksOpen
    simp only [Bool.and_eq_true]
    repeat' with_reducible apply And.intro
    all_goals decide +kernel
  refine holds_law ws fun said => ?_
  refine holds_open (q := Mine.viewP) (loose := []) (Xt := Mine.lawXt) (XP := XL Mine.viewP []) (Yf := Hook.obs Mine.hookK) (Ya := Hook.val Mine.hookK) (YP := Hook.says Mine.hookK) (N := 2544) Mine.top_left (Hook.of Mine.hookK) (Hook.keeps Mine.hookK) (fun s e => xl_of s (Bool.and_eq_true_iff.mp e).1) XL.keeps (by rfl) (by rfl) (by rfl) (fun s e => recFacts_of (Bool.and_eq_true_iff.mp e).2) (by rfl) (by first | assumption | decide +kernel) (by decide +kernel) ⟨rfl, rfl, rfl, rfl, rfl, by decide +kernel⟩ ?hw ?hc
  case hw => w_witness2
  case hc =>
    intro w s₀ s₁ mg mb G Y fa o pm cd doc dV kV ho hd hcd hD hmg hg args vals as hpre hlay hrd hwl hlo
    have KX : (Mine.KK w.params).In s₁.heap := km_in_of Y
    have hT8 := km_tabs_of Y
    have X := (Ground.X G).1
    have V := (Ground.X G).2
    refine Ground.open G ?_
    intro T B D TE TW
    have hT9 : TabsAt ([(214, 210)] : List (Addr × Addr)) s₁.heap := List.forall_mem_cons.mpr ⟨⟨codeHd_of_K (c := 214) (P := 210) KX (by kernel_rfl), hT8 210 (.head _)⟩, fun _ h => nomatch h⟩
    clear hmg
    wrow_args hpre hlay hrd hwl hlo
    refine enter_call ?_
    w_top on
    kn_posts
    w_call any ho hd hcd hD T F
    clear hd
    rename Heap.IsList _ _ _ => hl
    rename IntsAre _ _ => hI
    rename News _ _ _ _ => N0
    rename ¬ (_ < _) => hlen
    refine wpAny_mono (Mine.law_top (ghost_K hT9 KX (by kernel_rfl)) (ghost_top hT9 T) (ghost_fr hT9 F) (ghost_news hT9 F N0) (ghost_list hT9 hl) hI (by omega) (s := { s₁ with toks := s₁.toks + 1 })) (fun f s' x => ?_) (fun e s' x => x)
    obtain ⟨rfl, k, o, gn, gr⟩ := x
    exact ⟨⟨.inl ⟨_, _, [], rfl, fun _ => rfl, .bool _, by wrow_post, fun _ => ⟨List.nodup_nil, fun _ h => nomatch h⟩⟩, k, o, gn.trans hg⟩, gr, trivial⟩
