import PyProof.Rows.All
import Wide.All
import OpenK.AllK
import Wide.FinOn
import PySem.Challenge.RW_ot0017_01
set_option Elab.async false
set_option linter.all false
section
open PySem PySem.W PyProof.Rows
set_option Elab.async false
namespace Mine
-- the heap that the law's text leaves, as a constant; the head itself stands at the end
local macro_rules | `(tactic| o_head $_) => `(tactic| skip)
theorem hd (h : PySem.Challenge.rw_ot0017_01.row.Holds) : PySem.Challenge.rw_ot0017_01.row.Holds := by k_head; exact h
end Mine
end
section
open PySem PySem.W PySem.Calls PyProof.Rows
set_option Elab.async false
namespace Mine

/-- abstract values: immutable things by value, the others by address -/
inductive AV where
  | any | none | bool (b : Bool) | int (i : Int) | str (s : Str) | typ (n : String) | blt (n : String) | adr (a : Addr)
  | tup (l : List AV) | lst (l : List AV)
  | scr (l : List Int)
  | obj (C dx : Addr)
  | mth (f : Addr) (self : AV)
  | rng (a b : Int)

noncomputable abbrev tupO (vs : List Value) (n : Nat) : Obj := { cls := .type "tuple", data := .seq vs.toArray n }
noncomputable abbrev lstO (vs : List Value) (n : Nat) : Obj := { cls := .type "list", data := .seq vs.toArray n }

mutual
noncomputable def V (h : Heap) (D : List Addr) : AV → Value → Prop
  | .any, _ => True
  | .none, v => v = .none
  | .bool b, v => v = .bool b
  | .int i, v => ∃ t, v = .int i t
  | .str x, v => ∃ t, v = .str x t
  | .typ n, v => v = .type n
  | .blt n, v => v = .builtin n
  | .adr a, v => v = .ref a
  | .tup l, v => ∃ a vs n, v = .ref a ∧ a ∉ D ∧ h.get? a = some (tupO vs (n * 0)) ∧ VL h D l vs
  | .lst l, v => ∃ a vs n, v = .ref a ∧ a ∉ D ∧ h.get? a = some (lstO vs n) ∧ VL h D l vs
  | .scr l, v => ∃ a vs, v = .ref a ∧ a ∉ D ∧ h.IsList a vs.toArray ∧ IntsAre vs l
  | .obj C dx, v => ∃ x, v = .ref x ∧ x ∉ D ∧ h.get? x = some (instObj C dx)
  | .mth f d, v => ∃ x u, v = .ref x ∧ x ∉ D ∧ h.get? x = some (methodObj (.ref f) u) ∧ V h D d u
  | .rng a b, v => ∃ x t u w, v = .ref x ∧ x ∉ D ∧ IsRange h x a b 1 t u w
noncomputable def VL (h : Heap) (D : List Addr) : List AV → List Value → Prop
  | [], vs => vs = []
  | d :: ds, vs => ∃ v r, vs = v :: r ∧ V h D d v ∧ VL h D ds r
end

/-- what a step may do to the heap: what lies off the ledger stays; the ledger's new addresses are new -/
structure Step (D : List Addr) (h : Heap) (D' : List Addr) (h' : Heap) : Prop where
  keep : ∀ b o, b ∉ D → h.get? b = some o → h'.get? b = some o
  new : ∀ b ∈ D', b ∈ D ∨ h.get? b = none
theorem Step.refl (D : List Addr) (h : Heap) : Step D h D h := ⟨fun _ _ _ e => e, fun _ m => .inl m⟩
theorem Step.off {D D' : List Addr} {h h' : Heap} (S : Step D h D' h') {b : Addr} {o : Obj} (hb : b ∉ D) (e : h.get? b = some o) : b ∉ D' := fun m => by
  rcases S.new b m with q | q
  · exact hb q
  · rw [e] at q; cases q
theorem Step.trans {D D' D'' : List Addr} {h h' h'' : Heap} (S : Step D h D' h') (T : Step D' h' D'' h'') : Step D h D'' h'' :=
  ⟨fun b o hb e => T.keep b o (S.off hb e) (S.keep b o hb e), fun b m => by
    rcases T.new b m with q | q
    · exact S.new b q
    · by_cases hb : b ∈ D
      · exact .inl hb
      · cases e : h.get? b with
        | none => exact .inr rfl
        | some o => rw [S.keep b o hb e] at q; cases q⟩

mutual
theorem V.step {h h' : Heap} {D D' : List Addr} (S : Step D h D' h') : ∀ (d : AV) (v : Value), V h D d v → V h' D' d v
  | .any, _, _ => trivial
  | .none, _, x => x
  | .bool _, _, x => x
  | .int _, _, x => x
  | .str _, _, x => x
  | .typ _, _, x => x
  | .blt _, _, x => x
  | .adr _, _, x => x
  | .tup l, _, x => by
    unfold V at x ⊢
    obtain ⟨a, vs, n, rfl, hd, e, r⟩ := x
    exact ⟨a, vs, n, rfl, S.off hd e, S.keep _ _ hd e, VL.step S l vs r⟩
  | .lst l, _, x => by
    unfold V at x ⊢
    obtain ⟨a, vs, n, rfl, hd, e, r⟩ := x
    exact ⟨a, vs, n, rfl, S.off hd e, S.keep _ _ hd e, VL.step S l vs r⟩
  | .scr l, _, x => by
    unfold V at x ⊢
    obtain ⟨a, vs, rfl, hd, ⟨o, e, r⟩, i⟩ := x
    exact ⟨a, vs, rfl, S.off hd e, ⟨o, S.keep _ _ hd e, r⟩, i⟩
  | .obj C dx, _, x => by
    unfold V at x ⊢
    obtain ⟨a, rfl, hd, e⟩ := x
    exact ⟨a, rfl, S.off hd e, S.keep _ _ hd e⟩
  | .mth f d, _, x => by
    unfold V at x ⊢
    obtain ⟨a, u, rfl, hd, e, r⟩ := x
    exact ⟨a, u, rfl, S.off hd e, S.keep _ _ hd e, V.step S d u r⟩
  | .rng a b, _, x => by
    unfold V at x ⊢
    obtain ⟨a, t, u, w, rfl, hd, e⟩ := x
    exact ⟨a, t, u, w, rfl, S.off hd e, S.keep _ _ hd e⟩
theorem VL.step {h h' : Heap} {D D' : List Addr} (S : Step D h D' h') : ∀ (ds : List AV) (vs : List Value), VL h D ds vs → VL h' D' ds vs
  | [], _, x => by unfold VL at x ⊢; exact x
  | d :: ds, _, x => by
    unfold VL at x ⊢
    obtain ⟨v, r, rfl, y, z⟩ := x
    exact ⟨v, r, rfl, V.step S d v y, VL.step S ds r z⟩
end

/-- mutable objects -/
inductive MO where
  | ns (l : List (Str × AV))
  | cell (d : Option AV)
  | lst (l : List AV)
  | ils (l : List AV)
  | dct (l : List (Str × AV))
  | spt
  | src
  | itr (l : List AV)
  | junk

noncomputable abbrev HL := List (Addr × MO)
noncomputable abbrev dom (H : HL) : List Addr := H.map (·.1)

noncomputable def OptV (h : Heap) (D : List Addr) : Option AV → Option Value → Prop
  | .none, v => v = .none
  | some d, v => ∃ u, v = some u ∧ V h D d u
/-- the entries of a dict with str keys -/
noncomputable def EntV (P : Params) (h : Heap) (D : List Addr) : List (Str × AV) → List DictEntry → Prop
  | [], es => es = []
  | (x, d) :: l, es => ∃ t u r, es = ⟨PyData.keyHash P x, .str x t, u⟩ :: r ∧ V h D d u ∧ EntV P h D l r

/-- the hash of (0, 0) -/
noncomputable def spHash : Int := reduceHash (Builtin.Tuple.tupleHashOf [hashInt 0, hashInt 0])
noncomputable def drawMax : Int := 2147483647
noncomputable def SrcV (vs : List Value) : Prop := ∃ (x y : Int) (t u : Tok), vs = [.int x t, .int y u] ∧ 0 ≤ x ∧ x.natAbs.log2 < 2 ^ 21 ∧ 0 ≤ y ∧ y < drawMax

/-- an iterator, what is left of it -/
noncomputable def IterOk (h : Heap) (D : List Addr) (a : Addr) (rest : List AV) : Prop :=
  (∃ l i vs n, h.IsListIter a l i ∧ l ∉ D ∧ h.get? l = some (lstO vs n) ∧ VL h D rest (vs.drop i)) ∨
  (∃ t i vs n, h.IsTupleIter a t i ∧ t ∉ D ∧ h.get? t = some (tupO vs n) ∧ VL h D rest (vs.drop i)) ∨
  (∃ (x : Int) (n : Nat), IsRangeIter h a x n 1 ∧ rest = (List.range n).map fun (k : Nat) => AV.int (x + k))

noncomputable def MOk (P : Params) (h : Heap) (D : List Addr) (a : Addr) : MO → Prop
  | .ns l => ∃ m, h.Ns a m ∧ ∀ x, OptV h D (l.lookup x) (m x)
  | .cell d => ∃ v, h.IsCell a v ∧ OptV h D d v
  | .lst l => ∃ vs n, h.get? a = some (lstO vs n) ∧ VL h D l vs
  | .dct l => ∃ es n, h.get? a = some (dictOf es n) ∧ EntV P h D l es ∧ (l.map (·.1)).Nodup
  | .spt => ∃ t n m u u₁ u₂, h.get? a = some (dictOf [⟨spHash, .ref t, .int 5 u⟩] n) ∧ h.get? t = some (tupO [.int 0 u₁, .int 0 u₂] (m * 0)) ∧ t ∉ D
  | .ils l => ∃ vs : List Value, h.IsList a vs.toArray ∧ VL h D l vs
  | .src => ∃ vs : List Value, h.IsList a vs.toArray ∧ SrcV vs
  | .itr l => IterOk h D a l
  | .junk => ∃ o, h.get? a = some o

theorem OptV.step {h h' : Heap} {D D' : List Addr} (S : Step D h D' h') : ∀ {d : Option AV} {v : Option Value}, OptV h D d v → OptV h' D' d v
  | .none, _, x => x
  | some d, _, ⟨u, e, y⟩ => ⟨u, e, V.step S d u y⟩
theorem EntV.step {P : Params} {h h' : Heap} {D D' : List Addr} (S : Step D h D' h') : ∀ {l : List (Str × AV)} {es : List DictEntry}, EntV P h D l es → EntV P h' D' l es
  | [], _, x => x
  | (_, d) :: _, _, ⟨t, u, r, e, y, z⟩ => ⟨t, u, r, e, V.step S d u y, EntV.step S z⟩
theorem IterOk.step {h h' : Heap} {D D' : List Addr} (S : Step D h D' h') {a : Addr} (k : ∀ o, h.get? a = some o → h'.get? a = some o) {rest : List AV} (x : IterOk h D a rest) : IterOk h' D' a rest := by
  rcases x with ⟨l, i, vs, n, ⟨o, ho, r⟩, hl, e, hv⟩ | ⟨l, i, vs, n, ⟨o, ho, r⟩, hl, e, hv⟩ | ⟨x, n, e, r⟩
  · exact .inl ⟨l, i, vs, n, ⟨o, k _ ho, r⟩, S.off hl e, S.keep _ _ hl e, VL.step S _ _ hv⟩
  · exact .inr (.inl ⟨l, i, vs, n, ⟨o, k _ ho, r⟩, S.off hl e, S.keep _ _ hl e, VL.step S _ _ hv⟩)
  · exact .inr (.inr ⟨x, n, k _ e, r⟩)
theorem IterOk.here {h : Heap} {D : List Addr} {a : Addr} {rest : List AV} (x : IterOk h D a rest) : ∃ o, h.get? a = some o := by
  rcases x with ⟨l, i, vs, n, ⟨o, ho, r⟩, hl, e, hv⟩ | ⟨l, i, vs, n, ⟨o, ho, r⟩, hl, e, hv⟩ | ⟨x, n, e, r⟩
  · exact ⟨o, ho⟩
  · exact ⟨o, ho⟩
  · exact ⟨_, e⟩
/-- an object of the ledger that the step leaves alone -/
theorem MOk.step {P : Params} {h h' : Heap} {D D' : List Addr} (S : Step D h D' h') {a : Addr} (k : ∀ o, h.get? a = some o → h'.get? a = some o) : ∀ {m : MO}, MOk P h D a m → MOk P h' D' a m
  | .ns _, ⟨m, ⟨o, es, ep, e, r⟩, y⟩ => ⟨m, ⟨o, es, ep, k _ e, r⟩, fun x => (y x).step S⟩
  | .cell _, ⟨v, ⟨o, e, r⟩, y⟩ => ⟨v, ⟨o, k _ e, r⟩, y.step S⟩
  | .lst _, ⟨vs, n, e, r⟩ => ⟨vs, n, k _ e, VL.step S _ _ r⟩
  | .dct _, ⟨es, n, e, r, nd⟩ => ⟨es, n, k _ e, EntV.step S r, nd⟩
  | .spt, ⟨t, n, m, u, u₁, u₂, e, x, y⟩ => ⟨t, n, m, u, u₁, u₂, k _ e, S.keep _ _ y x, S.off y x⟩
  | .ils _, ⟨vs, ⟨o, e, x⟩, r⟩ => ⟨vs, ⟨o, k _ e, x⟩, VL.step S _ _ r⟩
  | .src, ⟨vs, ⟨o, e, x⟩, r⟩ => ⟨vs, ⟨o, k _ e, x⟩, r⟩
  | .itr _, x => IterOk.step S k x
  | .junk, ⟨o, e⟩ => ⟨o, k _ e⟩
theorem MOk.here {P : Params} {h : Heap} {D : List Addr} {a : Addr} : ∀ {m : MO}, MOk P h D a m → ∃ o, h.get? a = some o
  | .ns _, ⟨_, ⟨o, _, _, e, _⟩, _⟩ => ⟨o, e⟩
  | .cell _, ⟨_, ⟨o, e, _⟩, _⟩ => ⟨o, e⟩
  | .lst _, ⟨_, _, e, _⟩ => ⟨_, e⟩
  | .dct _, ⟨_, _, e, _⟩ => ⟨_, e⟩
  | .spt, ⟨_, _, _, _, _, _, e, _⟩ => ⟨_, e⟩
  | .ils _, ⟨_, ⟨o, e, _⟩, _⟩ => ⟨o, e⟩
  | .src, ⟨_, ⟨o, e, _⟩, _⟩ => ⟨o, e⟩
  | .itr _, x => IterOk.here x
  | .junk, x => x

/-- what is fixed through the law's call -/
structure Cx where
  prog : Program
  w : World
  s₀ : Shared
  mg : Str → Option Value
  mb : Str → Option Value
  X : (Mine.hd.heap_1 w.params).In s₀.heap
  g : s₀.heap.Ns mainGlobals mg
  b : s₀.heap.Ns builtinsNs mb
  lim : s₀.heap.NoLimit
  bt : ∀ x : Str, x ≠ "__name__" → mb x = bootBuiltins x

/-- the written part of the heap -/
noncomputable abbrev Cx.K (c : Cx) : Frag := Mine.hd.heap_1 c.w.params
structure Inv (c : Cx) (H : HL) (s : Shared) : Prop where
  rest : s.gens = c.s₀.gens ∧ s.drawn = c.s₀.drawn ∧ s.os = c.s₀.os
  base : ∀ b o, c.s₀.heap.get? b = some o → s.heap.get? b = some o
  off : ∀ p ∈ H, c.s₀.heap.get? p.1 = none
  low : ∀ p ∈ H, sysModules < p.1
  apart : (dom H).Nodup
  ok : ∀ p ∈ H, MOk c.w.params s.heap (dom H) p.1 p.2

theorem Inv.toks {c : Cx} {H : HL} {s : Shared} (I : Inv c H s) (t : Nat) : Inv c H { s with toks := t } := ⟨I.rest, I.base, I.off, I.low, I.apart, I.ok⟩
theorem Inv.lim {c : Cx} {H : HL} {s : Shared} (I : Inv c H s) : s.heap.NoLimit := c.lim.keeps I.base
theorem Inv.X {c : Cx} {H : HL} {s : Shared} (I : Inv c H s) : c.K.In s.heap := c.X.keeps I.base
theorem Inv.g {c : Cx} {H : HL} {s : Shared} (I : Inv c H s) : s.heap.Ns mainGlobals c.mg := c.g.keeps I.base
theorem Inv.b {c : Cx} {H : HL} {s : Shared} (I : Inv c H s) : s.heap.Ns builtinsNs c.mb := c.b.keeps I.base
theorem dom_mem {H : HL} {p : Addr × MO} (m : p ∈ H) : p.1 ∈ dom H := List.mem_map_of_mem m
theorem Inv.notIn {c : Cx} {H : HL} {s : Shared} (I : Inv c H s) {b : Addr} {o : Obj} (e : c.s₀.heap.get? b = some o) : b ∉ dom H := fun m => by
  obtain ⟨p, hp, rfl⟩ := List.mem_map.mp m
  rw [I.off p hp] at e; cases e

/-- the heap grows, nothing of it changes -/
theorem Inv.grow {c : Cx} {H : HL} {s : Shared} (I : Inv c H s) {h' : Heap} {t : Nat} (k : ∀ b o, s.heap.get? b = some o → h'.get? b = some o) :
    Inv c H { s with heap := h', toks := t } ∧ Step (dom H) s.heap (dom H) h' :=
  have S : Step (dom H) s.heap (dom H) h' := ⟨fun b o _ e => k b o e, fun _ m => .inl m⟩
  ⟨⟨I.rest, fun b o e => k _ _ (I.base b o e), I.off, I.low, I.apart, fun p m => (I.ok p m).step S fun o e => k _ _ e⟩, S⟩

/-- a new object onto the ledger -/
theorem Inv.push {c : Cx} {H : HL} {s : Shared} (I : Inv c H s) {h' : Heap} {t : Nat} {a : Addr} {m : MO} (k : ∀ b o, s.heap.get? b = some o → h'.get? b = some o) (hn : s.heap.get? a = none)
    (hm : MOk c.w.params h' (a :: dom H) a m) (hz : s.heap.objs.size ≤ a := by exact Nat.le_refl _) : Inv c ((a, m) :: H) { s with heap := h', toks := t } ∧ Step (dom H) s.heap (a :: dom H) h' :=
  have S : Step (dom H) s.heap (a :: dom H) h' := ⟨fun b o _ e => k b o e, fun b m => by
    rcases List.mem_cons.mp m with rfl | m
    · exact .inr hn
    · exact .inl m⟩
  ⟨⟨I.rest, fun b o e => k _ _ (I.base b o e), fun p hp => by
      rcases List.mem_cons.mp hp with rfl | hp
      · cases e : c.s₀.heap.get? a with
        | none => rfl
        | some _ => rw [I.base _ _ e] at hn; cases hn
      · exact I.off p hp,
    (fun p hp => by
      rcases List.mem_cons.mp hp with rfl | hp
      · exact Nat.lt_of_lt_of_le (modules_low I.lim) hz
      · exact I.low p hp),
    (by
      show (a :: dom H).Nodup
      refine List.nodup_cons.mpr ⟨fun q => ?_, I.apart⟩
      obtain ⟨p, hp, rfl⟩ := List.mem_map.mp q
      obtain ⟨o, e⟩ := (I.ok p hp).here
      rw [e] at hn; cases hn),
    fun p hp => by
      rcases List.mem_cons.mp hp with rfl | hp
      · exact hm
      · exact (I.ok p hp).step S fun o e => k _ _ e⟩, S⟩

/-- an object of the ledger is changed -/
theorem Inv.upd {c : Cx} {pre post : HL} {a : Addr} {m m' : MO} {s : Shared} (I : Inv c (pre ++ (a, m) :: post) s) {h' : Heap} {t : Nat}
    (k : Heap.SameBut a s.heap h') (hm : MOk c.w.params h' (dom (pre ++ (a, m) :: post)) a m') :
    Inv c (pre ++ (a, m') :: post) { s with heap := h', toks := t } ∧ Step (dom (pre ++ (a, m) :: post)) s.heap (dom (pre ++ (a, m') :: post)) h' := by
  have hd : dom (pre ++ (a, m') :: post) = dom (pre ++ (a, m) :: post) := by simp [dom]
  have ha : a ∈ dom (pre ++ (a, m) :: post) := by simp [dom]
  have S : Step (dom (pre ++ (a, m) :: post)) s.heap (dom (pre ++ (a, m') :: post)) h' := ⟨fun b o hb e => (k.2 b fun q => hb (q ▸ ha)).trans e, fun b m => .inl (hd ▸ m)⟩
  have off : ∀ p ∈ pre ++ (a, m') :: post, c.s₀.heap.get? p.1 = none := fun p hp => by
    rcases List.mem_append.mp hp with q | q
    · exact I.off p (List.mem_append_left _ q)
    · rcases List.mem_cons.mp q with rfl | q
      · exact I.off (a, m) (List.mem_append_right _ (.head _))
      · exact I.off p (List.mem_append_right _ (.tail _ q))
  have nd := I.apart
  have ne : ∀ p, p ∈ pre ∨ p ∈ post → p.1 ≠ a := fun p hp q => by
    have : dom (pre ++ (a, m) :: post) = dom pre ++ a :: dom post := by simp [dom]
    rw [this] at nd
    rw [List.nodup_append] at nd
    rcases hp with hp | hp
    · exact nd.2.2 _ (dom_mem hp) a (.head _) q
    · exact (List.nodup_cons.mp nd.2.1).1 (q ▸ dom_mem hp)
  have low : ∀ p ∈ pre ++ (a, m') :: post, sysModules < p.1 := fun p hp => by
    rcases List.mem_append.mp hp with q | q
    · exact I.low p (List.mem_append_left _ q)
    · rcases List.mem_cons.mp q with rfl | q
      · exact I.low (a, m) (List.mem_append_right _ (.head _))
      · exact I.low p (List.mem_append_right _ (.tail _ q))
  refine ⟨⟨I.rest, fun b o e => (k.2 b fun q => ?_).trans (I.base b o e), off, low, hd ▸ nd, fun p hp => ?_⟩, S⟩
  · exact I.notIn e (q ▸ ha)
  · rcases List.mem_append.mp hp with q | q
    · exact (I.ok p (List.mem_append_left _ q)).step S fun o e => (k.2 _ (ne p (.inl q))).trans e
    · rcases List.mem_cons.mp q with rfl | q
      · exact hd ▸ hm
      · exact (I.ok p (List.mem_append_right _ (.tail _ q))).step S fun o e => (k.2 _ (ne p (.inr q))).trans e

/-- the ledger is a set -/
theorem Inv.perm {c : Cx} {H H' : HL} {s : Shared} (I : Inv c H s) (p : H.Perm H') : Inv c H' s ∧ Step (dom H) s.heap (dom H') s.heap := by
  have pd : (dom H).Perm (dom H') := p.map _
  have S : Step (dom H) s.heap (dom H') s.heap := ⟨fun _ _ _ e => e, fun b m => .inl (pd.mem_iff.mpr m)⟩
  exact ⟨⟨I.rest, I.base, fun q m => I.off q (p.mem_iff.mpr m), fun q m => I.low q (p.mem_iff.mpr m), pd.nodup_iff.mp I.apart, fun q m => (I.ok q (p.mem_iff.mpr m)).step S fun _ e => e⟩, S⟩
/-- an object is let go of -/
theorem Inv.drop {c : Cx} {p : Addr × MO} {H : HL} {s : Shared} (I : Inv c (p :: H) s) : Inv c H s ∧ Step (dom (p :: H)) s.heap (dom H) s.heap :=
  have S : Step (dom (p :: H)) s.heap (dom H) s.heap := ⟨fun _ _ _ e => e, fun _ m => .inl (.tail _ m)⟩
  ⟨⟨I.rest, I.base, fun q m => I.off q (.tail _ m), fun q m => I.low q (.tail _ m), (List.nodup_cons.mp I.apart).2, fun q m => (I.ok q (.tail _ m)).step S fun _ e => e⟩, S⟩

/-! ### Triples -/
noncomputable abbrev Cx.M (c : Cx) : Model := model c.prog c.w

structure Room (k : Nat) (A : Around) : Prop where
  depth : A.depth + k ≤ 900
  units : A.units + 20 * k + 200 ≤ 9000
  guards : A.guards = some []
  handled : A.handled = none

noncomputable def Post (c : Cx) (H : HL) (s : Shared) (K : AV → HL → Prop) (Q : Value → Shared → Prop) : Prop :=
  ∀ s' v d H', Inv c H' s' → Step (dom H) s.heap (dom H') s'.heap → V s'.heap (dom H') d v → K d H' → Q v s'
/-- the tree gives a value of K -/
noncomputable def TV (c : Cx) (A : Around) (t : Sem Value) (H : HL) (K : AV → HL → Prop) : Prop :=
  ∀ s E Q, Inv c H s → Post c H s K Q → wpAny c.M A t Q E s
/-- the tree with values in hand -/
noncomputable def TVs (c : Cx) (A : Around) (t : List Value → Sem Value) (ds : List AV) (H : HL) (K : AV → HL → Prop) : Prop :=
  ∀ s vs E Q, Inv c H s → VL s.heap (dom H) ds vs → Post c H s K Q → wpAny c.M A (t vs) Q E s

noncomputable abbrev AE (c : Cx) (A : Around) (env : Env) (e : Expr) (H : HL) (K : AV → HL → Prop) : Prop := TV c A (eval e env) H K
/-- a call with values in hand; f first -/
noncomputable def callVs (vs : List Value) : Sem Value := match vs with
  | f :: r => call f r
  | [] => unsupported "none"
noncomputable abbrev AC (c : Cx) (A : Around) (f : AV) (ds : List AV) (H : HL) (K : AV → HL → Prop) : Prop := TVs c A callVs (f :: ds) H K

/-- a test -/
noncomputable def TB (c : Cx) (A : Around) (t : Sem Bool) (H : HL) (K : Bool → HL → Prop) : Prop :=
  ∀ s E (Q : Bool → Shared → Prop), Inv c H s → (∀ s' b H', Inv c H' s' → Step (dom H) s.heap (dom H') s'.heap → K b H' → Q b s') → wpAny c.M A t Q E s
/-- a statement's tree: Kn: goes on; Kr: returns -/
noncomputable def TS (c : Cx) (A : Around) (t : Sem Flow) (H : HL) (Kn : HL → Prop) (Kr : AV → HL → Prop) : Prop :=
  ∀ s E (Q : Flow → Shared → Prop), Inv c H s → (∀ s' H', Inv c H' s' → Step (dom H) s.heap (dom H') s'.heap → Kn H' → Q .next s') →
    (∀ s' v d H', Inv c H' s' → Step (dom H) s.heap (dom H') s'.heap → V s'.heap (dom H') d v → Kr d H' → Q (.ret v) s') → wpAny c.M A t Q E s
/-- a tree that gives nothing -/
noncomputable def TU (c : Cx) (A : Around) (t : Sem Unit) (H : HL) (K : HL → Prop) : Prop :=
  ∀ s E (Q : Unit → Shared → Prop), Inv c H s → (∀ s' H', Inv c H' s' → Step (dom H) s.heap (dom H') s'.heap → K H' → Q () s') → wpAny c.M A t Q E s
/-- with a value in hand -/
noncomputable def TUs (c : Cx) (A : Around) (t : List Value → Sem Unit) (ds : List AV) (H : HL) (K : HL → Prop) : Prop :=
  ∀ s vs E (Q : Unit → Shared → Prop), Inv c H s → VL s.heap (dom H) ds vs → (∀ s' H', Inv c H' s' → Step (dom H) s.heap (dom H') s'.heap → K H' → Q () s') → wpAny c.M A (t vs) Q E s

theorem Post.here {c : Cx} {H : HL} {s : Shared} {K : AV → HL → Prop} {Q : Value → Shared → Prop} (P : Post c H s K Q) {v : Value} {d : AV} (I : Inv c H s) (hv : V s.heap (dom H) d v) (k : K d H) : Q v s :=
  P s v d H I (.refl _ _) hv k
theorem Post.behind {c : Cx} {H H₁ : HL} {s s₁ : Shared} {K : AV → HL → Prop} {Q : Value → Shared → Prop} (P : Post c H s K Q) (S : Step (dom H) s.heap (dom H₁) s₁.heap) : Post c H₁ s₁ K Q :=
  fun s' v d H' I T hv k => P s' v d H' I (S.trans T) hv k
theorem TV.mono {c : Cx} {A : Around} {t : Sem Value} {H : HL} {K K' : AV → HL → Prop} (x : TV c A t H K) (k : ∀ d H', K d H' → K' d H') : TV c A t H K' :=
  fun s E Q I P => x s E Q I fun s' v d H' I' S hv q => P s' v d H' I' S hv (k d H' q)
theorem TVs.mono {c : Cx} {A : Around} {t : List Value → Sem Value} {ds : List AV} {H : HL} {K K' : AV → HL → Prop} (x : TVs c A t ds H K) (k : ∀ d H', K d H' → K' d H') : TVs c A t ds H K' :=
  fun s vs E Q I hv P => x s vs E Q I hv fun s' v d H' I' S hv q => P s' v d H' I' S hv (k d H' q)
theorem TV.perm {c : Cx} {A : Around} {t : Sem Value} {H H₁ : HL} {K : AV → HL → Prop} (p : H.Perm H₁) (x : TV c A t H₁ K) : TV c A t H K :=
  fun s E Q I P => x s E Q (I.perm p).1 (P.behind (I.perm p).2)
theorem TS.perm {c : Cx} {A : Around} {t : Sem Flow} {H H₁ : HL} {Kn : HL → Prop} {Kr : AV → HL → Prop} (p : H.Perm H₁) (x : TS c A t H₁ Kn Kr) : TS c A t H Kn Kr :=
  fun s E Q I P R => x s E Q (I.perm p).1 (fun s' H' I' S k => P s' H' I' ((I.perm p).2.trans S) k) (fun s' v d H' I' S hv k => R s' v d H' I' ((I.perm p).2.trans S) hv k)
theorem TVs.perm {c : Cx} {A : Around} {t : List Value → Sem Value} {ds : List AV} {H H₁ : HL} {K : AV → HL → Prop} (p : H.Perm H₁) (x : TVs c A t ds H₁ K) : TVs c A t ds H K :=
  fun s vs E Q I hv P => x s vs E Q (I.perm p).1 (VL.step (I.perm p).2 _ _ hv) (P.behind (I.perm p).2)
end Mine
end
section
open PySem PySem.W PySem.Calls PyProof.Rows
set_option Elab.async false
namespace Mine
section
variable {c : Cx} {A : Around} {env : Env} {H : HL} {K : AV → HL → Prop}

/-! names -/
theorem e_local {x : Str} {pos : Pos} {L : Addr} {l : List (Str × AV)} {d : AV} (hx : env.kindOf x = some .local) (hk : env.scope.kind = .function) (hL : env.locals = L) (hm : (L, MO.ns l) ∈ H) (hl : l.lookup x = some d) (k : K d H)
    (hd : (x == ("__debug__" : Str)) = false := by decide) : AE c A env (.Name x pos) H K := by
  subst hL
  intro s E Q I P
  obtain ⟨m, hn, hv⟩ := I.ok _ hm
  have := hv x
  rw [hl] at this
  obtain ⟨u, e, v⟩ := this
  exact wpAny_Name (wpAny_loadName_local hk hx hn e (P.here I v k)) hd
theorem e_cell {x : Str} {pos : Pos} {a : Addr} {d : AV} (hk : env.scope.kind = .function) (hx : env.kindOf x = some .cell) (hc : env.cells.lookup x = some a) (hm : (a, MO.cell (some d)) ∈ H) (k : K d H)
    (hd : (x == ("__debug__" : Str)) = false := by decide) : AE c A env (.Name x pos) H K := by
  intro s E Q I P
  obtain ⟨_, hv, u, rfl, v⟩ := I.ok _ hm
  exact wpAny_Name (wpAny_loadName_cell hk hx hc hv (P.here I v k)) hd
theorem e_free {x : Str} {pos : Pos} {a : Addr} {d : AV} (hk : env.scope.kind = .function) (hx : env.kindOf x = some .free) (hc : env.cells.lookup x = some a) (hm : (a, MO.cell (some d)) ∈ H) (k : K d H)
    (hd : (x == ("__debug__" : Str)) = false := by decide) (hn : (x == ("__classdict__" : Str)) = false := by decide) : AE c A env (.Name x pos) H K := by
  intro s E Q I P
  obtain ⟨_, hv, u, rfl, v⟩ := I.ok _ hm
  exact wpAny_Name (wpAny_loadName_free hk hx hc hv (P.here I v k) hn) hd
theorem e_global {x : Str} {pos : Pos} {v : Value} {d : AV} (hk : env.scope.kind = .function) (hx : env.kindOf x = some .globalImplicit) (hg : env.globals = mainGlobals)
    (e : nsIn c.K mainGlobals x = some (some v)) (hv : ∀ h D, V h D d v) (k : K d H)
    (hd : (x == ("__debug__" : Str)) = false := by decide) : AE c A env (.Name x pos) H K := by
  intro s E Q I P
  exact Name_function_global hk hx (loadGlobal_global (hg ▸ I.g) (mg_of c.X c.g e) (P.here I (hv _ _) k)) hd
theorem e_builtin {x : Str} {pos : Pos} {v : Value} {d : AV} (hk : env.scope.kind = .function) (hx : env.kindOf x = some .globalImplicit) (hg : env.globals = mainGlobals) (hb : env.builtins = builtinsNs)
    (e : nsIn c.K mainGlobals x = some none) (hv : bootBuiltins x = some v) (hn : x ≠ "__name__") (hd' : ∀ h D, V h D d v) (k : K d H)
    (hd : (x == ("__debug__" : Str)) = false := by decide) : AE c A env (.Name x pos) H K := by
  intro s E Q I P
  exact Name_function_global hk hx (loadGlobal_builtin (hg ▸ I.g) (mg_none_of c.X c.g e) (hb ▸ I.b) ((c.bt x hn).trans hv) (P.here I (hd' _ _) k)) hd

/-! constants -/
theorem e_none {k : Nat} {pos : Pos} (q : K .none H) : AE c A env (.Constant .none k pos) H K := fun _ _ _ I P => wpAny_Constant_none (P.here (d := .none) I rfl q)
theorem e_bool {b : Bool} {k : Nat} {pos : Pos} (q : K (.bool b) H) : AE c A env (.Constant (.bool b) k pos) H K := fun _ _ _ I P => wpAny_Constant_bool (P.here (d := .bool b) I rfl q)
theorem e_int {i : Int} {k : Nat} {pos : Pos} (q : K (.int i) H) : AE c A env (.Constant (.int i) k pos) H K :=
  fun _ _ _ I P => wpAny_Constant_int (P _ _ (.int i) _ (I.toks _) (.refl _ _) ⟨_, rfl⟩ q)
theorem e_str {x : Str} {k : Nat} {pos : Pos} (q : K (.str x) H) : AE c A env (.Constant (.str x) k pos) H K :=
  fun _ _ _ I P => wpAny_Constant_str (P _ _ (.str x) _ (I.toks _) (.refl _ _) ⟨_, rfl⟩ q)

/-! two operands -/
noncomputable def two (f : Value → Value → Sem Value) (vs : List Value) : Sem Value := match vs with
  | [a, b] => f a b
  | _ => unsupported "none"
noncomputable def one (f : Value → Sem Value) (vs : List Value) : Sem Value := match vs with
  | [a] => f a
  | _ => unsupported "none"
theorem TVs.of2 {f : Value → Value → Sem Value} {d₁ d₂ : AV} (h : ∀ s a b E Q, Inv c H s → V s.heap (dom H) d₁ a → V s.heap (dom H) d₂ b → Post c H s K Q → wpAny c.M A (f a b) Q E s) : TVs c A (two f) [d₁, d₂] H K := by
  intro s vs E Q I hv P
  obtain ⟨a, r, rfl, va, b, r', rfl, vb, rfl⟩ := hv
  exact h s a b E Q I va vb P
theorem TVs.of1 {f : Value → Sem Value} {d₁ : AV} (h : ∀ s a E Q, Inv c H s → V s.heap (dom H) d₁ a → Post c H s K Q → wpAny c.M A (f a) Q E s) : TVs c A (one f) [d₁] H K := by
  intro s vs E Q I hv P
  obtain ⟨a, r, rfl, va, rfl⟩ := hv
  exact h s a E Q I va P
noncomputable abbrev OB (c : Cx) (A : Around) (op : Operator) (d₁ d₂ : AV) (H : HL) (K : AV → HL → Prop) : Prop := TVs c A (two (binaryOp op)) [d₁, d₂] H K
noncomputable abbrev OCm (c : Cx) (A : Around) (op : CmpOp) (d₁ d₂ : AV) (H : HL) (K : AV → HL → Prop) : Prop := TVs c A (two (compareOp op)) [d₁, d₂] H K
theorem VL.two {h : Heap} {D : List Addr} {d₁ d₂ : AV} {a b : Value} (x : V h D d₁ a) (y : V h D d₂ b) : VL h D [d₁, d₂] [a, b] := ⟨a, [b], rfl, x, b, [], rfl, y, rfl⟩
theorem VL.one {h : Heap} {D : List Addr} {d₁ : AV} {a : Value} (x : V h D d₁ a) : VL h D [d₁] [a] := ⟨a, [], rfl, x, rfl⟩

noncomputable abbrev BinR (c : Cx) (A : Around) (op : Operator) (d₁ : AV) (K : AV → HL → Prop) : AV → HL → Prop := fun d₂ H₂ => OB c A op d₁ d₂ H₂ K
noncomputable abbrev BinL (c : Cx) (A : Around) (env : Env) (r : Expr) (op : Operator) (K : AV → HL → Prop) : AV → HL → Prop := fun d₁ H₁ => AE c A env r H₁ (BinR c A op d₁ K)
noncomputable abbrev CmpR (c : Cx) (A : Around) (op : CmpOp) (d₁ : AV) (K : AV → HL → Prop) : AV → HL → Prop := fun d₂ H₂ => OCm c A op d₁ d₂ H₂ K
noncomputable abbrev CmpL (c : Cx) (A : Around) (env : Env) (r : Expr) (op : CmpOp) (K : AV → HL → Prop) : AV → HL → Prop := fun d₁ H₁ => AE c A env r H₁ (CmpR c A op d₁ K)
noncomputable abbrev UnK (c : Cx) (A : Around) (op : UnaryOp) (K : AV → HL → Prop) : AV → HL → Prop := fun d₁ H₁ => TVs c A (one (unaryOp op)) [d₁] H₁ K
theorem e_binop {l r : Expr} {op : Operator} {pos : Pos} (h : AE c A env l H (BinL c A env r op K)) : AE c A env (.BinOp l op r pos) H K := by
  intro s E Q I P
  refine wpAny_BinOp (h s E _ I fun s₁ a d₁ H₁ I₁ S₁ va h₁ => h₁ s₁ E _ I₁ fun s₂ b d₂ H₂ I₂ S₂ vb h₂ => ?_)
  exact h₂ s₂ [a, b] E Q I₂ (.two (V.step S₂ _ _ va) vb) (P.behind (S₁.trans S₂))
theorem e_compare {l r : Expr} {op : CmpOp} {pos : Pos} (h : AE c A env l H (CmpL c A env r op K)) (hs : behindInMarks op r = false := by with_unfolding_all rfl) :
    AE c A env (.Compare l [op] [r] pos) H K := by
  intro s E Q I P
  refine wpAny_Compare1 (h s E _ I fun s₁ a d₁ H₁ I₁ S₁ va h₁ => h₁ s₁ E _ I₁ fun s₂ b d₂ H₂ I₂ S₂ vb h₂ => ?_) hs
  exact h₂ s₂ [a, b] E Q I₂ (.two (V.step S₂ _ _ va) vb) (P.behind (S₁.trans S₂))
theorem e_unary {x : Expr} {op : UnaryOp} {pos : Pos} (h : AE c A env x H (UnK c A op K)) : AE c A env (.UnaryOp op x pos) H K := by
  intro s E Q I P
  exact wpAny_UnaryOp (h s E _ I fun s₁ a d₁ H₁ I₁ S₁ va h₁ => h₁ s₁ [a] E Q I₁ (.one va) (P.behind S₁))

/-! tests -/
noncomputable abbrev AT (c : Cx) (A : Around) (env : Env) (e : Expr) (H : HL) (K : Bool → HL → Prop) : Prop := TB c A (PySem.isTrue e env (eval e env)) H K
variable {KB : Bool → HL → Prop}
/-- the truth of a value whose truth is plain -/
noncomputable def truthOf : AV → Option Bool
  | .bool b => some b
  | _ => none
noncomputable abbrev BlK (KB : Bool → HL → Prop) : AV → HL → Prop := fun d H' => ∃ b, d = .bool b ∧ KB b H'
noncomputable abbrev NtK (KB : Bool → HL → Prop) : Bool → HL → Prop := fun b H' => KB (!b) H'
theorem ntK_t (k : KB false H) : NtK KB true H := k
theorem ntK_f (k : KB true H) : NtK KB false H := k
theorem blK {b b' : Bool} (e : b = b') (k : KB b' H) : BlK KB (.bool b) H := ⟨b, rfl, e ▸ k⟩
theorem t_of {e : Expr} (h : AE c A env e H (BlK KB)) (hs : PySem.isTrue e env (eval e env) = (do let v ← eval e env; standAt e.pos; holding [v] (truthy v)) := by with_unfolding_all rfl) : AT c A env e H KB := by
  intro s E Q I P
  refine wpAny_isTrue_value (h s E _ I fun s₁ a d₁ H₁ I₁ S₁ va h₁ => ?_) hs
  obtain ⟨b, rfl, k⟩ := h₁
  cases va
  exact wpAny_truthy_bool (P s₁ b H₁ I₁ S₁ k)
theorem t_not {e : Expr} {pos : Pos} (h : AT c A env e H (NtK KB)) : AT c A env (.UnaryOp .Not e pos) H KB := by
  intro s E Q I P
  exact wpAny_isTrue_Not (h s E _ I fun s₁ b H₁ I₁ S₁ k => P s₁ _ H₁ I₁ S₁ k)
theorem t_compare {l r : Expr} {op : CmpOp} {pos : Pos} (h : AE c A env l H (CmpL c A env r op (BlK KB)))
    (hs : behindInMarks op r = false := by with_unfolding_all rfl) : AT c A env (.Compare l [op] [r] pos) H KB := by
  intro s E Q I P
  refine wpAny_isTrue_Compare1 (h s E _ I fun s₁ a d₁ H₁ I₁ S₁ va h₁ => h₁ s₁ E _ I₁ fun s₂ b d₂ H₂ I₂ S₂ vb h₂ => ?_) hs
  refine h₂ s₂ [a, b] E _ I₂ (.two (V.step S₂ _ _ va) vb) fun s₃ v d H₃ I₃ S₃ hv k => ?_
  obtain ⟨b, rfl, k⟩ := k
  cases hv
  exact wpAny_truthy_bool (P s₃ b H₃ I₃ ((S₁.trans S₂).trans S₃) k)
noncomputable abbrev AAll (c : Cx) (A : Around) (env : Env) (op : BoolOp) (es : List Expr) (H : HL) (K : Bool → HL → Prop) : Prop := TB c A (allTrue op es env) H K
theorem t_boolop {op : BoolOp} {es : List Expr} {pos : Pos} (h : AAll c A env op es H KB) : AT c A env (.BoolOp op es pos) H KB := fun s E Q I P => wpAny_isTrue_BoolOp (h s E Q I P)
theorem TB.behind {t : Sem Bool} {H₁ : HL} {s s₁ : Shared} {E : Value → Shared → Prop} {Q : Bool → Shared → Prop} (h : TB c A t H₁ KB) (I₁ : Inv c H₁ s₁) (S : Step (dom H) s.heap (dom H₁) s₁.heap)
    (P : ∀ s' b H', Inv c H' s' → Step (dom H) s.heap (dom H') s'.heap → KB b H' → Q b s') : wpAny c.M A t Q E s₁ := h s₁ E Q I₁ fun s' b H' I' S' k => P s' b H' I' (S.trans S') k
theorem t_and_nil (k : KB true H) : AAll c A env .And [] H KB := fun s E Q I P => wpAny_allTrue_And_nil (P s _ H I (.refl _ _) k)
theorem t_or_nil (k : KB false H) : AAll c A env .Or [] H KB := fun s E Q I P => wpAny_allTrue_Or_nil (P s _ H I (.refl _ _) k)
noncomputable abbrev AndK (c : Cx) (A : Around) (env : Env) (es : List Expr) (KB : Bool → HL → Prop) : Bool → HL → Prop := fun b H₁ => (b = true → AAll c A env .And es H₁ KB) ∧ (b = false → KB false H₁)
noncomputable abbrev OrK (c : Cx) (A : Around) (env : Env) (es : List Expr) (KB : Bool → HL → Prop) : Bool → HL → Prop := fun b H₁ => (b = false → AAll c A env .Or es H₁ KB) ∧ (b = true → KB true H₁)
theorem andK_t {es : List Expr} (h : AAll c A env .And es H KB) : AndK c A env es KB true H := ⟨fun _ => h, fun e => Bool.noConfusion e⟩
theorem andK_f {es : List Expr} (h : KB false H) : AndK c A env es KB false H := ⟨fun e => Bool.noConfusion e, fun _ => h⟩
theorem orK_f {es : List Expr} (h : AAll c A env .Or es H KB) : OrK c A env es KB false H := ⟨fun _ => h, fun e => Bool.noConfusion e⟩
theorem orK_t {es : List Expr} (h : KB true H) : OrK c A env es KB true H := ⟨fun e => Bool.noConfusion e, fun _ => h⟩
theorem t_and {e : Expr} {es : List Expr} (h : AT c A env e H (AndK c A env es KB)) : AAll c A env .And (e :: es) H KB := by
  intro s E Q I P
  refine wpAny_allTrue_And_cons (h s E _ I fun s₁ b H₁ I₁ S₁ k => ?_)
  cases b with
  | true => exact (if_pos rfl).mpr ((k.1 rfl).behind I₁ S₁ P)
  | false => exact (if_neg Bool.false_ne_true).mpr (P s₁ _ H₁ I₁ S₁ (k.2 rfl))
theorem t_or {e : Expr} {es : List Expr} (h : AT c A env e H (OrK c A env es KB)) : AAll c A env .Or (e :: es) H KB := by
  intro s E Q I P
  refine wpAny_allTrue_Or_cons (h s E _ I fun s₁ b H₁ I₁ S₁ k => ?_)
  cases b with
  | true => exact (if_pos rfl).mpr (P s₁ _ H₁ I₁ S₁ (k.2 rfl))
  | false => exact (if_neg Bool.false_ne_true).mpr ((k.1 rfl).behind I₁ S₁ P)
noncomputable abbrev IfEK (c : Cx) (A : Around) (env : Env) (b o : Expr) (K : AV → HL → Prop) : Bool → HL → Prop := fun r H₁ => (r = true → AE c A env b H₁ K) ∧ (r = false → AE c A env o H₁ K)
theorem ifEK_t {b o : Expr} (h : AE c A env b H K) : IfEK c A env b o K true H := ⟨fun _ => h, fun e => Bool.noConfusion e⟩
theorem ifEK_f {b o : Expr} (h : AE c A env o H K) : IfEK c A env b o K false H := ⟨fun e => Bool.noConfusion e, fun _ => h⟩
theorem e_ifexp {t b o : Expr} {pos : Pos} (h : AT c A env t H (IfEK c A env b o K)) : AE c A env (.IfExp t b o pos) H K := by
  intro s E Q I P
  refine wpAny_IfExp (h s E _ I fun s₁ b H₁ I₁ S₁ k => ?_)
  cases b with
  | true => exact (if_pos rfl).mpr (k.1 rfl s₁ E Q I₁ (P.behind S₁))
  | false => exact (if_neg Bool.false_ne_true).mpr (k.2 rfl s₁ E Q I₁ (P.behind S₁))

/-! lists of expressions -/
noncomputable def TL (c : Cx) (A : Around) (t : Sem (List Value)) (H : HL) (K : List AV → HL → Prop) : Prop :=
  ∀ s E (Q : List Value → Shared → Prop), Inv c H s → (∀ s' vs ds H', Inv c H' s' → Step (dom H) s.heap (dom H') s'.heap → VL s'.heap (dom H') ds vs → K ds H' → Q vs s') → wpAny c.M A t Q E s
noncomputable abbrev AL (c : Cx) (A : Around) (env : Env) (pos : Pos) (es : List Expr) (H : HL) (K : List AV → HL → Prop) : Prop := TL c A (spliced (backTo pos (starEach es env))) H K
variable {KL : List AV → HL → Prop}
theorem l_nil {pos : Pos} (k : KL [] H) : AL c A env pos [] H KL := fun s E Q I P => wpAny_items_nil (P s [] [] H I (.refl _ _) rfl k)
noncomputable abbrev ConsR (d : AV) (KL : List AV → HL → Prop) : List AV → HL → Prop := fun ds H₂ => KL (d :: ds) H₂
noncomputable abbrev ConsK (c : Cx) (A : Around) (env : Env) (pos : Pos) (es : List Expr) (KL : List AV → HL → Prop) : AV → HL → Prop := fun d H₁ => AL c A env pos es H₁ (ConsR d KL)
theorem l_cons {pos : Pos} {e : Expr} {es : List Expr} (h : AE c A env e H (ConsK c A env pos es KL)) (hs : starEach (e :: es) env = (false, eval e env) :: starEach es env := by with_unfolding_all rfl) :
    AL c A env pos (e :: es) H KL := by
  intro s E Q I P
  refine wpAny_items_cons (h s E _ I fun s₁ a d₁ H₁ I₁ S₁ va h₁ => h₁ s₁ E _ I₁ fun s₂ vs ds H₂ I₂ S₂ hv k => ?_) hs
  exact P s₂ _ (d₁ :: ds) H₂ I₂ (S₁.trans S₂) ⟨a, vs, rfl, V.step S₂ _ _ va, hv⟩ k
theorem VL.length {h : Heap} {D : List Addr} : ∀ {ds : List AV} {vs : List Value}, VL h D ds vs → vs.length = ds.length
  | [], _, x => by cases x; rfl
  | _ :: _, _, ⟨_, _, e, _, y⟩ => by rw [e, List.length_cons, List.length_cons, y.length]
theorem Inv.newTup {s : Shared} {ds : List AV} {vs : List Value} (I : Inv c H s) (hv : VL s.heap (dom H) ds vs) :
    let s' : Shared := { s with heap := s.heap.push { cls := .type "tuple", data := .seq vs.toArray } }
    Inv c H s' ∧ Step (dom H) s.heap (dom H) s'.heap ∧ V s'.heap (dom H) (.tup ds) (.ref s.heap.objs.size) := by
  have g := I.grow (h' := s.heap.push { cls := .type "tuple", data := .seq vs.toArray }) (t := s.toks) fun b o e => Heap.get?_push_of_some _ e
  refine ⟨g.1, g.2, _, vs, 0, rfl, fun m => ?_, Heap.get?_push_size _ rfl, VL.step g.2 _ _ hv⟩
  obtain ⟨p, hp, e⟩ := List.mem_map.mp m
  obtain ⟨o, q⟩ := (I.ok p hp).here
  exact Nat.lt_irrefl _ (e ▸ Heap.lt_size q)
theorem Inv.newLst {s : Shared} {ds : List AV} {vs : List Value} (I : Inv c H s) (hv : VL s.heap (dom H) ds vs) :
    let s' : Shared := { s with heap := s.heap.push { cls := .type "list", data := .seq vs.toArray } }
    Inv c H s' ∧ Step (dom H) s.heap (dom H) s'.heap ∧ V s'.heap (dom H) (.lst ds) (.ref s.heap.objs.size) := by
  have g := I.grow (h' := s.heap.push { cls := .type "list", data := .seq vs.toArray }) (t := s.toks) fun b o e => Heap.get?_push_of_some _ e
  refine ⟨g.1, g.2, _, vs, 0, rfl, fun m => ?_, Heap.get?_push_size _ rfl, VL.step g.2 _ _ hv⟩
  obtain ⟨p, hp, e⟩ := List.mem_map.mp m
  obtain ⟨o, q⟩ := (I.ok p hp).here
  exact Nat.lt_irrefl _ (e ▸ Heap.lt_size q)
noncomputable abbrev TupK (K : AV → HL → Prop) : List AV → HL → Prop := fun ds H₁ => ds.length ≤ 1000 ∧ K (.tup ds) H₁
noncomputable abbrev LstK (K : AV → HL → Prop) : List AV → HL → Prop := fun ds H₁ => ds.length ≤ 1000 ∧ K (.lst ds) H₁
noncomputable abbrev LsmK (K : AV → HL → Prop) : List AV → HL → Prop := fun ds H₁ => ds.length ≤ 1000 ∧ ∀ a, K (.adr a) ((a, .lst ds) :: H₁)
theorem tupK {ds : List AV} (h : ds.length ≤ 1000) (k : K (.tup ds) H) : TupK K ds H := ⟨h, k⟩
theorem lstK {ds : List AV} (h : ds.length ≤ 1000) (k : K (.lst ds) H) : LstK K ds H := ⟨h, k⟩
theorem e_tuple {es : List Expr} {k : Nat} {pos : Pos} (h : AL c A env pos es H (TupK K)) : AE c A env (.Tuple es k pos) H K := by
  intro s E Q I P
  refine wpAny_Tuple (h s E _ I fun s₁ vs ds H₁ I₁ S₁ hv k => ⟨?_, ?_⟩)
  · rw [hv.length]; exact Nat.le_trans k.1 (by decide)
  · have g := I₁.newTup hv
    exact P _ _ _ _ g.1 (S₁.trans g.2.1) g.2.2 k.2
/-- a list display whose list stays as it is made -/
theorem e_list {es : List Expr} {pos : Pos} (h : AL c A env pos es H (LstK K)) : AE c A env (.List es pos) H K := by
  intro s E Q I P
  refine wpAny_List (h s E _ I fun s₁ vs ds H₁ I₁ S₁ hv k => ⟨?_, ?_⟩)
  · rw [hv.length]; exact Nat.le_trans k.1 (by decide)
  · have g := I₁.newLst hv
    exact P _ _ _ _ g.1 (S₁.trans g.2.1) g.2.2 k.2
theorem Inv.none_size {s : Shared} : s.heap.get? s.heap.objs.size = none := by
  cases e : s.heap.get? s.heap.objs.size with
  | none => rfl
  | some o => exact absurd (Heap.lt_size e) (Nat.lt_irrefl _)
/-- a list display whose list will be changed: onto the ledger -/
theorem e_listM {es : List Expr} {pos : Pos} (h : AL c A env pos es H (LsmK K)) : AE c A env (.List es pos) H K := by
  intro s E Q I P
  refine wpAny_List (h s E _ I fun s₁ vs ds H₁ I₁ S₁ hv k => ⟨?_, ?_⟩)
  · rw [hv.length]; exact Nat.le_trans k.1 (by decide)
  · have g := I₁.push (h' := s₁.heap.push { cls := .type "list", data := .seq vs.toArray }) (t := s₁.toks) (a := s₁.heap.objs.size) (m := .lst ds) (fun b o e => Heap.get?_push_of_some _ e) Inv.none_size
      ⟨vs, 0, Heap.get?_push_size _ rfl, VL.step (D := dom H₁) (h := s₁.heap) ⟨fun b o _ e => Heap.get?_push_of_some _ e, fun b m => by
        rcases List.mem_cons.mp m with rfl | m
        · exact .inr Inv.none_size
        · exact .inl m⟩ _ _ hv⟩
    exact P _ _ (.adr s₁.heap.objs.size) _ g.1 (S₁.trans g.2) rfl (k.2 _)

/-! calls -/
noncomputable def keepsAV (K : Frag) : AV → Bool
  | .adr a => keepIn K (.ref a)
  | .typ _ => true
  | .blt _ => true
  | .mth f _ => fnIn K f
  | _ => false
theorem evalArgs_of {f : Value} {es : List Expr} {pos : Pos} {Q : Args → Shared → Prop} {s : Shared} {E : Value → Shared → Prop} {M : Model} (h : wpAny M A (spliced (backTo pos (starEach es env))) (fun vs s' => Q ⟨vs, []⟩ s') E s)
    (hs : starEach es env = es.map fun e => (false, eval e env)) : wpAny M A (evalArgs f true (backTo pos (starEach es env)) []) Q E s := by
  cases es with
  | nil =>
    show wpAny M A (evalArgs f true [] []) Q E s
    unfold evalArgs
    show wpAny M A (spliced [] >>= _) Q E s
    refine wpAny_bind (wpAny_mono h (fun vs s' h' => ?_) fun _ _ x => x)
    exact wpAny_bind (wpAny_pure (wpAny_holding (wpAny_bind (wpAny_pure (wpAny_bind (wpAny_pure (wpAny_pure h')))))))
  | cons e es =>
    rw [hs] at h ⊢
    exact evalArgs_plain h
theorem callWith_av {f : Value} {fd : AV} {es : List Expr} {pos : Pos} {first : List Value} {fds : List AV} {E : Value → Shared → Prop} {Q : Value → Shared → Prop} {s : Shared} (I : Inv c H s) (hf : V s.heap (dom H) fd f) (hfs : VL s.heap (dom H) fds first)
    (hk : keepsAV c.K fd = true) (h : AL c A env pos es H fun ds H₁ => AC c A fd (fds ++ ds) H₁ K) (P : Post c H s K Q) (hs : starEach es env = es.map fun e => (false, eval e env)) :
    wpAny c.M A (callWith pos f first (backTo pos (starEach es env)) []) Q E s := by
  have app : ∀ {h : Heap} {D : List Addr} {as bs : List AV} {us vs : List Value}, VL h D as us → VL h D bs vs → VL h D (as ++ bs) (us ++ vs) := by
    intro h D as
    induction as with
    | nil => intro bs us vs x y; cases x; exact y
    | cons d as ih =>
      intro bs us vs x y
      obtain ⟨v, r, rfl, x1, x2⟩ := x
      exact ⟨v, r ++ vs, rfl, x1, ih x2 y⟩
  have plain : ((backTo pos (starEach es env)).any (·.1) || ([] : List (Option Str × Sem Value)).any (·.1.isNone)) = false := by
    rw [hs]
    simp only [backTo, List.map_map, List.any_nil, Bool.or_false]
    rw [List.any_eq_false]
    intro x hx
    obtain ⟨e, _, rfl⟩ := List.mem_map.mp hx
    simp
  refine callWith_of (P := fun hh => ∃ H', ∃ s', hh = s'.heap ∧ Inv c H' s' ∧ V s'.heap (dom H') fd f) plain ?_ (evalArgs_of (h s E _ I fun s₁ vs ds H₁ I₁ S₁ hv k => ⟨⟨H₁, s₁, rfl, I₁, V.step S₁ _ _ hf⟩, ?_⟩) hs)
  · rintro _ ⟨H', s', rfl, I', hv⟩
    cases fd with
    | adr a =>
      cases hv
      exact keeps_K (K := c.K) (f := .ref a) hk _ I'.X
    | typ n => cases hv; exact ⟨.machine, .inr (.inl rfl), Looks.of_pure rfl⟩
    | blt n => cases hv; exact ⟨.machine, .inr (.inl rfl), Looks.of_pure rfl⟩
    | mth g d =>
      obtain ⟨x, u, rfl, _, e, _⟩ := hv
      exact keeps_M (K := c.K) (f := g) hk _ ⟨e, I'.X⟩
    | _ => cases hk
  · exact k s₁ (f :: (first ++ vs)) E Q I₁ ⟨f, _, rfl, V.step S₁ _ _ hf, app (VL.step S₁ _ _ hfs) hv⟩ (P.behind S₁)
noncomputable abbrev ArgK (c : Cx) (A : Around) (fd : AV) (K : AV → HL → Prop) : List AV → HL → Prop := fun ds H₂ => AC c A fd ds H₂ K
noncomputable abbrev CalK (c : Cx) (A : Around) (env : Env) (pos : Pos) (es : List Expr) (K : AV → HL → Prop) : AV → HL → Prop := fun fd H₁ => keepsAV c.K fd = true ∧ AL c A env pos es H₁ (ArgK c A fd K)
theorem calK {pos : Pos} {es : List Expr} {fd : AV} (h : keepsAV c.K fd = true) (k : AL c A env pos es H (ArgK c A fd K)) : CalK c A env pos es K fd H := ⟨h, k⟩
theorem e_call {id : Str} {p pos : Pos} {es : List Expr} (h : AE c A env (.Name id p) H (CalK c A env pos es K))
    (hs : starEach es env = es.map fun e => (false, eval e env) := by with_unfolding_all rfl) : AE c A env (.Call (.Name id p) es [] pos) H K := by
  intro s E Q I P
  show wpAny _ _ (eval (.Call (.Name id p) es [] pos) env) _ _ _
  rw [arm_eval_Call_Name']
  refine wpAny_bind (h s E _ I fun s₁ f fd H₁ I₁ S₁ hf k => ?_)
  exact callWith_av I₁ hf (fds := []) rfl k.1 k.2 (P.behind S₁) hs

/-! statements -/
variable {Kn : HL → Prop} {Kr : AV → HL → Prop}
noncomputable abbrev AS (c : Cx) (A : Around) (env : Env) (st : Stmt) (H : HL) (Kn : HL → Prop) (Kr : AV → HL → Prop) : Prop := TS c A (exec st env) H Kn Kr
noncomputable abbrev ASs (c : Cx) (A : Around) (env : Env) (st : List Stmt) (H : HL) (Kn : HL → Prop) (Kr : AV → HL → Prop) : Prop := TS c A (execs st env) H Kn Kr
theorem s_nil (k : Kn H) : ASs c A env [] H Kn Kr := fun s E Q I P _ => wpAny_execs_nil (P s H I (.refl _ _) k)
noncomputable abbrev SqK (c : Cx) (A : Around) (env : Env) (r : List Stmt) (Kn : HL → Prop) (Kr : AV → HL → Prop) : HL → Prop := fun H₁ => ASs c A env r H₁ Kn Kr
theorem s_cons {st : Stmt} {r : List Stmt} (h : AS c A env st H (SqK c A env r Kn Kr) Kr) : ASs c A env (st :: r) H Kn Kr := by
  intro s E Q I P R
  refine wpAny_execs_cons (h s E _ I (fun s₁ H₁ I₁ S₁ k => ?_) fun s₁ v d H₁ I₁ S₁ hv k => R s₁ v d H₁ I₁ S₁ hv k)
  exact k s₁ E Q I₁ (fun s₂ H₂ I₂ S₂ k₂ => P s₂ H₂ I₂ (S₁.trans S₂) k₂) fun s₂ v d H₂ I₂ S₂ hv k₂ => R s₂ v d H₂ I₂ (S₁.trans S₂) hv k₂
theorem s_return {e : Expr} {pos : Pos} (h : AE c A env e H Kr) : AS c A env (.Return (some e) pos) H Kn Kr :=
  fun s E Q I _ R => wpAny_Return_some (h s E _ I fun s₁ v d H₁ I₁ S₁ hv k => R s₁ v d H₁ I₁ S₁ hv k)
theorem s_pass {pos : Pos} (k : Kn H) : AS c A env (.Pass pos) H Kn Kr := fun s E Q I P _ => wpAny_Pass (P s H I (.refl _ _) k)
noncomputable abbrev IfSK (c : Cx) (A : Around) (env : Env) (b o : List Stmt) (Kn : HL → Prop) (Kr : AV → HL → Prop) : Bool → HL → Prop := fun r H₁ => (r = true → ASs c A env b H₁ Kn Kr) ∧ (r = false → ASs c A env o H₁ Kn Kr)
theorem ifSK_t {b o : List Stmt} (h : ASs c A env b H Kn Kr) : IfSK c A env b o Kn Kr true H := ⟨fun _ => h, fun e => Bool.noConfusion e⟩
theorem ifSK_f {b o : List Stmt} (h : ASs c A env o H Kn Kr) : IfSK c A env b o Kn Kr false H := ⟨fun e => Bool.noConfusion e, fun _ => h⟩
theorem s_if {t : Expr} {b o : List Stmt} {pos : Pos} (h : AT c A env t H (IfSK c A env b o Kn Kr)) : AS c A env (.If t b o pos) H Kn Kr := by
  intro s E Q I P R
  refine wpAny_If (h s E _ I fun s₁ b H₁ I₁ S₁ k => ?_)
  cases b with
  | true => exact (if_pos rfl).mpr (k.1 rfl s₁ E Q I₁ (fun s₂ H₂ I₂ S₂ k₂ => P s₂ H₂ I₂ (S₁.trans S₂) k₂) fun s₂ v d H₂ I₂ S₂ hv k₂ => R s₂ v d H₂ I₂ (S₁.trans S₂) hv k₂)
  | false => exact (if_neg Bool.false_ne_true).mpr (k.2 rfl s₁ E Q I₁ (fun s₂ H₂ I₂ S₂ k₂ => P s₂ H₂ I₂ (S₁.trans S₂) k₂) fun s₂ v d H₂ I₂ S₂ hv k₂ => R s₂ v d H₂ I₂ (S₁.trans S₂) hv k₂)

/-! stores -/
noncomputable abbrev ST (c : Cx) (A : Around) (env : Env) (x : Str) (d : AV) (H : HL) (Kn : HL → Prop) : Prop := TUs c A (fun vs => match vs with | [v] => storeName env x v | _ => unsupported "none") [d] H Kn
theorem st_local {x : Str} {d : AV} {pre post : HL} {l : List (Str × AV)} (hx : env.kindOf x = some .local) (hk : env.scope.kind = .function) (k : Kn (pre ++ (env.locals, .ns ((x, d) :: l)) :: post)) :
    ST c A env x d (pre ++ (env.locals, .ns l) :: post) Kn := by
  rintro s vs E Q I ⟨v, _, rfl, hv, rfl⟩ P
  obtain ⟨m, hn, hm⟩ := I.ok (env.locals, .ns l) (List.mem_append_right _ (.head _))
  refine wpAny_storeName_local hx hn (fun h' hn' hs => ?_) (by rw [hk]; rfl)
  have S : Step (dom (pre ++ (env.locals, .ns l) :: post)) s.heap (dom (pre ++ (env.locals, .ns l) :: post)) h' :=
    ⟨fun b o hb e => (hs.2 b fun q => hb (by rw [q]; simp [dom])).trans e, fun _ m => .inl m⟩
  have g := I.upd (h' := h') (t := s.toks + 1) (m' := .ns ((x, d) :: l)) hs ⟨_, hn', fun y => ?_⟩
  · exact P _ _ g.1 g.2 k
  · rw [List.lookup_cons]
    by_cases hy : y = x
    · subst hy
      simp only [beq_self_eq_true, if_true]
      exact ⟨v, rfl, V.step S _ _ hv⟩
    · have hb : (y == x) = false := beq_eq_false_iff_ne.mpr hy
      simp only [hb, hy, if_false]
      exact (hm y).step S
theorem st_cell {x : Str} {d : AV} {d₀ : Option AV} {pre post : HL} {a : Addr} (hx : env.kindOf x = some .cell) (hk : env.scope.kind = .function) (hc : env.cells.lookup x = some a) (k : Kn (pre ++ (a, .cell (some d)) :: post)) :
    ST c A env x d (pre ++ (a, .cell d₀) :: post) Kn := by
  rintro s vs E Q I ⟨v, _, rfl, hv, rfl⟩ P
  obtain ⟨v₀, hn, hm⟩ := I.ok (a, .cell d₀) (List.mem_append_right _ (.head _))
  refine wpAny_storeName_cell hk hx hc hn fun h' hn' hs => ?_
  have S : Step (dom (pre ++ (a, .cell d₀) :: post)) s.heap (dom (pre ++ (a, .cell d₀) :: post)) h' :=
    ⟨fun b o hb e => (hs.2 b fun q => hb (by rw [q]; simp [dom])).trans e, fun _ m => .inl m⟩
  have g := I.upd (h' := h') (t := s.toks) (m' := .cell (some d)) hs ⟨_, hn', v, rfl, V.step S _ _ hv⟩
  exact P _ _ g.1 g.2 k
noncomputable abbrev StK (c : Cx) (A : Around) (env : Env) (x : Str) (Kn : HL → Prop) : AV → HL → Prop := fun d H₁ => ST c A env x d H₁ Kn
theorem s_assign {x : Str} {p pos : Pos} {e : Expr} (h : AE c A env e H (StK c A env x Kn)) (hs : swapsWith e (some (.Name x p)) pos.line env = pure false := by with_unfolding_all rfl) :
    AS c A env (.Assign [.Name x p] e pos) H Kn Kr := by
  intro s E Q I P R
  refine wpAny_Assign_Name (h s E _ I fun s₁ v d H₁ I₁ S₁ hv k => ?_) hs
  exact k s₁ [v] E _ I₁ (.one hv) fun s₂ H₂ I₂ S₂ k₂ => P s₂ H₂ I₂ (S₁.trans S₂) k₂
end
end Mine
end
section
open PySem PySem.W PySem.Calls PyProof.Rows
set_option Elab.async false
namespace Mine

noncomputable def locA (kd : Str → Option NameKind) : List (Str × AV) → List (Str × AV) → List (Str × AV)
  | [], l => l
  | (n, d) :: r, l => locA kd r (if kd n = some .local then (n, d) :: l else l)
noncomputable def celA (kd : Str → Option NameKind) : List (Str × AV) → List (Str × AV) → List (Str × AV)
  | [], l => l
  | (n, d) :: r, l => celA kd r (if kd n = some .local then l else (n, d) :: l)
/-- the ledger of a new frame -/
noncomputable def frameH (env : Env) (bs : List (Str × AV)) : HL :=
  (env.locals, .ns (locA env.kindOf bs [])) :: env.cells.map fun p => (p.2, .cell ((celA env.kindOf bs []).lookup p.1))

noncomputable def BindV (h : Heap) (D : List Addr) : List (Str × AV) → List (Str × Value) → Prop
  | [], bs => bs = []
  | (n, d) :: l, bs => ∃ v r, bs = (n, v) :: r ∧ V h D d v ∧ BindV h D l r
theorem bindV_zip {h : Heap} {D : List Addr} : ∀ {ns : List Str} {ds : List AV} {vs : List Value}, ns.length = ds.length → VL h D ds vs → BindV h D (ns.zip ds) (ns.zip vs)
  | [], [], _, _, x => by cases x; exact rfl
  | n :: ns, d :: ds, _, e, ⟨v, r, rfl, x, y⟩ => ⟨v, ns.zip r, rfl, x, bindV_zip (Nat.succ.inj e) y⟩
  | [], _ :: _, _, e, _ => by cases e
  | _ :: _, [], _, e, _ => by cases e
theorem optV_cons {h : Heap} {D : List Addr} {l : List (Str × AV)} {m : Str → Option Value} {n : Str} {d : AV} {v : Value} (hv : V h D d v) (hm : ∀ x, OptV h D (l.lookup x) (m x)) : ∀ x, OptV h D (((n, d) :: l).lookup x) (if x = n then some v else m x) := by
  intro x
  rw [List.lookup_cons]
  by_cases hy : x = n
  · subst hy
    simp only [beq_self_eq_true, if_true]
    exact ⟨v, rfl, hv⟩
  · have hb : (x == n) = false := beq_eq_false_iff_ne.mpr hy
    simp only [hb, hy, if_false]
    exact hm x
theorem locA_bindL {h : Heap} {D : List Addr} {kd : Str → Option NameKind} : ∀ {bs : List (Str × AV)} {binds : List (Str × Value)} {l : List (Str × AV)} {m : Str → Option Value}, BindV h D bs binds → (∀ x, OptV h D (l.lookup x) (m x)) →
    ∀ x, OptV h D ((locA kd bs l).lookup x) (bindL kd binds m x)
  | [], _, _, _, e, hm => by cases e; exact hm
  | (n, d) :: bs, _, l, m, ⟨v, r, rfl, hv, hb⟩, hm => by
    unfold locA bindL
    refine locA_bindL hb ?_
    by_cases q : kd n = some .local
    · simp only [q, if_true]; exact optV_cons hv hm
    · simp only [q, if_false]; exact hm
theorem celA_bindC {h : Heap} {D : List Addr} {kd : Str → Option NameKind} : ∀ {bs : List (Str × AV)} {binds : List (Str × Value)} {l : List (Str × AV)} {m : Str → Option Value}, BindV h D bs binds → (∀ x, OptV h D (l.lookup x) (m x)) →
    ∀ x, OptV h D ((celA kd bs l).lookup x) (bindC kd binds m x)
  | [], _, _, _, e, hm => by cases e; exact hm
  | (n, d) :: bs, _, l, m, ⟨v, r, rfl, hv, hb⟩, hm => by
    unfold celA bindC
    refine celA_bindC hb ?_
    by_cases q : kd n = some .local
    · simp only [q, if_true]; exact hm
    · simp only [q, if_false]; exact optV_cons hv hm
theorem BindV.step {h h' : Heap} {D D' : List Addr} (S : Step D h D' h') : ∀ {bs : List (Str × AV)} {binds : List (Str × Value)}, BindV h D bs binds → BindV h' D' bs binds
  | [], _, e => e
  | _ :: _, _, ⟨v, r, e, x, y⟩ => ⟨v, r, e, V.step S _ _ x, y.step S⟩

section
variable {c : Cx} {A : Around} {H : HL}
/-- several new objects onto the ledger -/
theorem Inv.pushes {s : Shared} (I : Inv c H s) {h' : Heap} {t : Nat} {fr : HL} (k : ∀ b o, s.heap.get? b = some o → h'.get? b = some o) (hn : ∀ p ∈ fr, s.heap.get? p.1 = none) (nd : (dom fr).Nodup)
    (hm : ∀ p ∈ fr, MOk c.w.params h' (dom (fr ++ H)) p.1 p.2) (hz : ∀ p ∈ fr, s.heap.objs.size ≤ p.1) : Inv c (fr ++ H) { s with heap := h', toks := t } ∧ Step (dom H) s.heap (dom (fr ++ H)) h' := by
  have hd : dom (fr ++ H) = dom fr ++ dom H := by simp [dom]
  have S : Step (dom H) s.heap (dom (fr ++ H)) h' := ⟨fun b o _ e => k b o e, fun b m => by
    rw [hd] at m
    rcases List.mem_append.mp m with m | m
    · obtain ⟨p, hp, rfl⟩ := List.mem_map.mp m
      exact .inr (hn p hp)
    · exact .inl m⟩
  refine ⟨⟨I.rest, fun b o e => k _ _ (I.base b o e), fun p hp => ?_, fun p hp => ?_, ?_, fun p hp => ?_⟩, S⟩
  · rcases List.mem_append.mp hp with hp | hp
    · cases e : c.s₀.heap.get? p.1 with
      | none => rfl
      | some o => have := hn p hp; rw [I.base _ _ e] at this; cases this
    · exact I.off p hp
  · rcases List.mem_append.mp hp with hp | hp
    · exact Nat.lt_of_lt_of_le (modules_low I.lim) (hz p hp)
    · exact I.low p hp
  · rw [hd]
    refine List.nodup_append.mpr ⟨nd, I.apart, fun a ha b hb e => ?_⟩
    subst e
    obtain ⟨p, hp, rfl⟩ := List.mem_map.mp ha
    obtain ⟨q, hq, e⟩ := List.mem_map.mp hb
    obtain ⟨o, ho⟩ := (I.ok q hq).here
    have := hn p hp
    rw [← e, ho] at this; cases this
  · rcases List.mem_append.mp hp with hp | hp
    · exact hm p hp
    · exact (I.ok p hp).step S fun o e => k _ _ e
theorem Inv.drops {s : Shared} : ∀ {fr H : HL}, Inv c (fr ++ H) s → Inv c H s ∧ Step (dom (fr ++ H)) s.heap (dom H) s.heap
  | [], _, I => ⟨I, .refl _ _⟩
  | _ :: _, _, I => let g := I.drop; let g' := Inv.drops g.1; ⟨g'.1, g.2.trans g'.2⟩

theorem Room.deeper {k : Nat} (R : Room (k + 1) A) (env : Env) : Room k (A.deeper env) :=
  ⟨by have := R.depth; show A.depth + 1 + k ≤ 900; omega, by have := R.units; show A.units + 3 + 20 * k + 200 ≤ 9000; omega, R.guards, R.handled⟩
theorem Room.mono {k j : Nat} (R : Room k A) (h : j ≤ k) : Room j A := ⟨by have := R.depth; omega, by have := R.units; omega, R.guards, R.handled⟩
theorem Room.in1 {k : Nat} (R : Room (k + 1) A) : Room k A.in1 := ⟨by have := R.depth; show A.depth + k ≤ 900; omega, by have := R.units; show A.units + 1 + 20 * k + 200 ≤ 9000; omega, R.guards, R.handled⟩

/-- what is left of the ledger behind a call -/
noncomputable def Back (K : AV → HL → Prop) (d : AV) (H' : HL) : Prop := ∃ fr H'', H'.Perm (fr ++ H'') ∧ K d H''

/-- a call as code -/
noncomputable def AF (c : Cx) (A : Around) (f : Addr) (ds : List AV) (H : HL) (K : AV → HL → Prop) : Prop :=
  ∀ s vs (E : Value → Shared → Prop) (Q : Value → Shared → Prop), Inv c H s → VL s.heap (dom H) ds vs → Post c H s K Q →
    codeAny c.M A (.call (.ref f) ⟨vs, []⟩) (fun r s' => match r with | .ok (.ret v) => Q v s' | .ok _ => False | .error e => E e s') s
theorem AF.ac {f : Addr} {ds : List AV} {K : AV → HL → Prop} (h : AF c A f ds H K) : AC c A (.adr f) ds H K := by
  rintro s vs E Q I ⟨fv, as, rfl, rfl, hv⟩ P
  exact wpAny_call (h s as E Q I hv P)
theorem AF.mono {f : Addr} {ds : List AV} {K K' : AV → HL → Prop} (h : AF c A f ds H K) (k : ∀ d H', K d H' → K' d H') : AF c A f ds H K' :=
  fun s vs E Q I hv P => h s vs E Q I hv fun s' v d H' I' S hv' q => P s' v d H' I' S hv' (k d H' q)
/-- a call of one of the text's defs -/
theorem ac_def {K : AV → HL → Prop} {f : Addr} {o : Obj} {fd : FuncData} {body : List Stmt} {ds : List AV} {ns : List Str} {k : Nat}
    (ho : c.K.lookup f = some o) (hdata : o.data = .func fd) (hcd : codeIn c.K fd.code fd.qualname = true) (hbody : fd.body = .stmts body) (hclo : fd.closure = [])
    (hlen : ns.length = ds.length) (hbind : ∀ vs : List Value, vs.length = ds.length → bindArgs fd ⟨vs, []⟩ = pure (ns.zip vs))
    (hkind : ∀ n L, n ∈ ns → fd.scope.names.lookup n = some .local ∨ fd.scope.names.lookup n = some .cell ∧ ((cellsFrom L fd.scope.names []).lookup n).isSome = true)
    (R : Room (k + 1) A)
    (h : ∀ L, Room k (A.deeper (callEnvC fd L f)) → ASs c (A.deeper (callEnvC fd L f)) (callEnvC fd L f) body (frameH (callEnvC fd L f) (ns.zip ds) ++ H) (Back K .none) (Back K))
    (hnd : ∀ L, ((cellsFrom L fd.scope.names []).map (·.1)).Nodup)
    (hco : fd.scope.isCoroutine = false := by rfl) (hgen : fd.scope.isGenerator = false := by rfl) (hk : fd.scope.kind = .function := by rfl) :
    AF c A f ds H K := by
  intro s as E Q I hv P
  have lv : as.length = ds.length := hv.length
  refine (codeAny_call_cells (fd := fd) (body := body) (binds := ns.zip as) (by have := R.depth; show A.depth < 1000; omega) (I.X _ _ ho) hdata I.lim (codeRec_of I.X hcd) hbody (hbind as lv) hclo (fun x hx => ?_) (fun s₁ X => ?_) hco hgen hk)
  · exact hkind x.1 _ (List.of_mem_zip hx).1
  · generalize hL : s.heap.objs.size = L at X ⊢
    obtain ⟨h₁, tk, rfl, keep⟩ := X.done
    have fresh : ∀ a, L ≤ a → s.heap.get? a = none := fun a ha => by
      cases e : s.heap.get? a with
      | none => rfl
      | some o => have := Heap.lt_size e; rw [hL] at this; exact absurd ha (Nat.not_le.mpr this)
    have cellsE : (callEnvC fd L f).cells = cellsFrom (L + 1) fd.scope.names [] := rfl
    have hab : ∀ p ∈ (callEnvC fd L f).cells, L < p.2 := fun p hp => X.above p.1 p.2 hp
    have nd : (dom (frameH (callEnvC fd L f) (ns.zip ds))).Nodup := by
      show (L :: dom ((callEnvC fd L f).cells.map _)).Nodup
      rw [show dom ((callEnvC fd L f).cells.map fun p => (p.2, MO.cell ((celA (callEnvC fd L f).kindOf (ns.zip ds) []).lookup p.1))) = (callEnvC fd L f).cells.map (·.2) by simp [dom]]
      refine List.nodup_cons.mpr ⟨fun m => ?_, ?_⟩
      · obtain ⟨p, hp, e⟩ := List.mem_map.mp m
        exact absurd (hab p hp) (by rw [e]; exact Nat.lt_irrefl _)
      · exact List.pairwise_map.mpr X.apart
    have news : ∀ p ∈ frameH (callEnvC fd L f) (ns.zip ds), s.heap.get? p.1 = none := fun p hp => by
      rcases List.mem_cons.mp hp with rfl | hp
      · exact fresh _ (Nat.le_refl L)
      · obtain ⟨q, hq, rfl⟩ := List.mem_map.mp hp
        exact fresh _ (Nat.le_of_lt (hab q hq))
    have S0 : Step (dom H) s.heap (dom (frameH (callEnvC fd L f) (ns.zip ds) ++ H)) h₁ := ⟨fun b o _ e => keep b o e, fun b m => by
      rw [show dom (frameH (callEnvC fd L f) (ns.zip ds) ++ H) = dom (frameH (callEnvC fd L f) (ns.zip ds)) ++ dom H by simp [dom]] at m
      rcases List.mem_append.mp m with m | m
      · obtain ⟨p, hp, rfl⟩ := List.mem_map.mp m
        exact .inr (news p hp)
      · exact .inl m⟩
    have hb := (bindV_zip hlen hv).step S0
    have g := I.pushes (h' := h₁) (t := tk) (fr := frameH (callEnvC fd L f) (ns.zip ds)) keep news nd (fun p hp => by
      rcases List.mem_cons.mp hp with rfl | hp
      · exact ⟨_, X.toInCall.ns, locA_bindL (l := []) (m := fun _ => none) hb fun _ => rfl⟩
      · obtain ⟨q, hq, rfl⟩ := List.mem_map.mp hp
        exact ⟨_, X.cell q.1 q.2 (lookup_of_mem_nodup (hnd _) hq), celA_bindC (l := []) (m := fun _ => none) hb (fun _ => rfl) q.1⟩) (fun p hp => by
      rcases List.mem_cons.mp hp with rfl | hp
      · rw [hL]; exact Nat.le_refl L
      · obtain ⟨q, hq, rfl⟩ := List.mem_map.mp hp
        rw [hL]; exact Nat.le_of_lt (hab q hq))
    refine h L (R.deeper _) _ _ _ g.1 (fun s₂ H₂ I₂ S₂ q => ?_) (fun s₂ v d H₂ I₂ S₂ hv q => ?_)
    · obtain ⟨fr, H₃, pm, q⟩ := q
      have p1 := I₂.perm pm
      have p2 := Inv.drops p1.1
      exact P s₂ .none .none H₃ p2.1 (((g.2.trans S₂).trans p1.2).trans p2.2) rfl q
    · obtain ⟨fr, H₃, pm, q⟩ := q
      have p1 := I₂.perm pm
      have p2 := Inv.drops p1.1
      exact P s₂ v d H₃ p2.1 (((g.2.trans S₂).trans p1.2).trans p2.2) (V.step (p1.2.trans p2.2) _ _ hv) q
end
end Mine
end
section
open PySem PySem.W PySem.Calls PyProof.Rows
set_option Elab.async false
namespace Mine
section
variable {c : Cx} {A : Around} {env : Env} {H : HL} {K : AV → HL → Prop}

/-! ints -/
theorem Post.tok {s : Shared} {Q : Value → Shared → Prop} (P : Post c H s K Q) (I : Inv c H s) {v : Value} {d : AV} {n : Nat} (hv : V s.heap (dom H) d v) (k : K d H) : Q v { s with toks := n } :=
  P _ v d H (I.toks n) (.refl _ _) hv k
theorem ob_add {a b : Int} (k : K (.int (a + b)) H) : OB c A .Add (.int a) (.int b) H K := TVs.of2 fun _ _ _ _ _ I ⟨_, e⟩ ⟨_, f⟩ P => by rw [e, f]; exact add_int (P.tok (d := .int _) I ⟨_, rfl⟩ k)
theorem ob_sub {a b : Int} (k : K (.int (a - b)) H) : OB c A .Sub (.int a) (.int b) H K := TVs.of2 fun _ _ _ _ _ I ⟨_, e⟩ ⟨_, f⟩ P => by rw [e, f]; exact sub_int (P.tok (d := .int _) I ⟨_, rfl⟩ k)
theorem ob_mul {a b : Int} (h : IntMulOk a b) (k : K (.int (a * b)) H) : OB c A .Mult (.int a) (.int b) H K := TVs.of2 fun _ _ _ _ _ I ⟨_, e⟩ ⟨_, f⟩ P => by rw [e, f]; exact mul_int (P.tok (d := .int _) I ⟨_, rfl⟩ k) h
theorem ob_mod {a b : Int} (h : b ≠ 0) (k : K (.int (a.fmod b)) H) : OB c A .Mod (.int a) (.int b) H K := TVs.of2 fun _ _ _ _ _ I ⟨_, e⟩ ⟨_, f⟩ P => by rw [e, f]; exact mod_int' h (P.tok (d := .int _) I ⟨_, rfl⟩ k)
theorem ob_div {a b : Int} (h : b ≠ 0) (hp : Builtin.divisionGoesByPylong a b = false) (k : K (.int (a.fdiv b)) H) : OB c A .FloorDiv (.int a) (.int b) H K :=
  TVs.of2 fun _ _ _ _ _ I ⟨_, e⟩ ⟨_, f⟩ P => by rw [e, f]; exact floordiv_int h (P.tok (d := .int _) I ⟨_, rfl⟩ k) (.inl hp)
theorem ob_pow {a b : Int} (h : 0 ≤ b) (hs : (Builtin.Int.intBits a : Int) * b ≤ 2 ^ 27) (k : K (.int (a ^ b.toNat)) H) : OB c A .Pow (.int a) (.int b) H K :=
  TVs.of2 fun _ _ _ _ _ I ⟨_, e⟩ ⟨_, f⟩ P => by rw [e, f]; exact pow_int h hs (P.tok (d := .int _) I ⟨_, rfl⟩ k)
theorem oc_lt {a b : Int} (k : K (.bool (decide (a < b))) H) : OCm c A .Lt (.int a) (.int b) H K := TVs.of2 fun _ _ _ _ _ I ⟨_, e⟩ ⟨_, f⟩ P => by rw [e, f]; exact lt_int (P.here (d := .bool _) I rfl k)
theorem oc_gt {a b : Int} (k : K (.bool (decide (b < a))) H) : OCm c A .Gt (.int a) (.int b) H K := TVs.of2 fun _ _ _ _ _ I ⟨_, e⟩ ⟨_, f⟩ P => by rw [e, f]; exact gt_int (P.here (d := .bool _) I rfl k)
theorem oc_ge {a b : Int} (k : K (.bool (decide (b ≤ a))) H) : OCm c A .GtE (.int a) (.int b) H K := TVs.of2 fun _ _ _ _ _ I ⟨_, e⟩ ⟨_, f⟩ P => by rw [e, f]; exact ge_int (P.here (d := .bool _) I rfl k)
theorem oc_eq {a b : Int} (k : K (.bool (a == b)) H) : OCm c A .Eq (.int a) (.int b) H K := TVs.of2 fun _ _ _ _ _ I ⟨_, e⟩ ⟨_, f⟩ P => by rw [e, f]; exact eq_int (P.here (d := .bool _) I rfl k)
theorem oc_eqs {a b : Str} (k : K (.bool (a == b)) H) : OCm c A .Eq (.str a) (.str b) H K := TVs.of2 fun _ _ _ _ _ I ⟨_, e⟩ ⟨_, f⟩ P => by rw [e, f]; exact eq_str (P.here (d := .bool _) I rfl k)
theorem oc_nes {a b : Str} (k : K (.bool (!(a == b))) H) : OCm c A .NotEq (.str a) (.str b) H K := TVs.of2 fun _ _ _ _ _ I ⟨_, e⟩ ⟨_, f⟩ P => by rw [e, f]; exact ne_str (P.here (d := .bool _) I rfl k)

/-! None -/
noncomputable def isNoneAV : AV → Option Bool
  | .none => some true
  | .any => Option.none
  | _ => some false
theorem isNoneAV_val {h : Heap} {D : List Addr} {d : AV} {b : Bool} {v : Value} (e : isNoneAV d = some b) (hv : V h D d v) : (v == Value.none) = b := by
  cases d with
  | any => cases e
  | none => cases hv; cases e; rfl
  | bool b' => cases hv; cases e; rfl
  | int i => obtain ⟨t, rfl⟩ := hv; cases e; rfl
  | str x => obtain ⟨t, rfl⟩ := hv; cases e; rfl
  | typ n => cases hv; cases e; rfl
  | blt n => cases hv; cases e; rfl
  | adr a => cases hv; cases e; rfl
  | tup l => obtain ⟨a, vs, n, rfl, _⟩ := hv; cases e; rfl
  | lst l => obtain ⟨a, vs, n, rfl, _⟩ := hv; cases e; rfl
  | scr l => obtain ⟨a, vs, rfl, _⟩ := hv; cases e; rfl
  | obj C dx => obtain ⟨x, rfl, _⟩ := hv; cases e; rfl
  | mth f d => obtain ⟨x, u, rfl, _⟩ := hv; cases e; rfl
  | rng a b' => obtain ⟨x, t, u, w, rfl, _⟩ := hv; cases e; rfl
theorem oc_is {d : AV} {b : Bool} (e : isNoneAV d = some b) (k : K (.bool b) H) : OCm c A .Is d .none H K := TVs.of2 fun _ _ _ _ _ I va vb P => by
  cases vb
  exact is_none (by rw [isNoneAV_val e va]; exact P.here (d := .bool _) I rfl k)
theorem oc_isnot {d : AV} {b : Bool} (e : isNoneAV d = some b) (k : K (.bool (!b)) H) : OCm c A .IsNot d .none H K := TVs.of2 fun _ _ _ _ _ I va vb P => by
  cases vb
  exact isNot_none (by rw [isNoneAV_val e va]; exact P.here (d := .bool _) I rfl k)
theorem ou_not {b : Bool} (k : K (.bool (!b)) H) : TVs c A (one (unaryOp .Not)) [.bool b] H K := TVs.of1 fun _ _ _ _ I va P => by
  cases va
  exact not_value (wpAny_truthy_bool (P.here (d := .bool _) I rfl k))
theorem ou_neg {a : Int} (k : K (.int (-a)) H) : TVs c A (one (unaryOp .USub)) [.int a] H K := TVs.of1 fun _ _ _ _ I ⟨_, e⟩ P => by
  rw [e]; exact neg_int (P.tok (d := .int _) I ⟨_, rfl⟩ k)

/-! tuples and lists -/
theorem VL.append {h : Heap} {D : List Addr} : ∀ {as bs : List AV} {us vs : List Value}, VL h D as us → VL h D bs vs → VL h D (as ++ bs) (us ++ vs)
  | [], _, _, _, x, y => by cases x; exact y
  | _ :: _, _, _, _, ⟨v, r, e, x1, x2⟩, y => by rw [e]; exact ⟨v, _, rfl, x1, x2.append y⟩
theorem VL.get {h : Heap} {D : List Addr} : ∀ {as : List AV} {us : List Value} {k : Nat} {d : AV}, VL h D as us → as[k]? = some d → ∃ v, us[k]? = some v ∧ V h D d v
  | [], _, _, _, _, e => by simp at e
  | _ :: _, _, 0, _, ⟨v, r, e, x1, _⟩, q => by cases q; rw [e]; exact ⟨v, rfl, x1⟩
  | _ :: _, _, k + 1, _, ⟨v, r, e, _, x2⟩, q => by rw [e]; exact x2.get (k := k) (by simpa using q)
theorem VL.drop {h : Heap} {D : List Addr} : ∀ {as : List AV} {us : List Value} (k : Nat), VL h D as us → VL h D (as.drop k) (us.drop k)
  | _, _, 0, x => x
  | [], _, _ + 1, x => by cases x; exact rfl
  | _ :: _, _, k + 1, ⟨v, r, e, _, x2⟩ => by rw [e]; exact x2.drop k
theorem VL.take {h : Heap} {D : List Addr} : ∀ {as : List AV} {us : List Value} (k : Nat), VL h D as us → VL h D (as.take k) (us.take k)
  | _, _, 0, _ => by rw [List.take_zero, List.take_zero]; exact rfl
  | [], _, _ + 1, x => by cases x; exact rfl
  | _ :: _, _, k + 1, ⟨v, r, e, x1, x2⟩ => by rw [e]; exact ⟨v, _, rfl, x1, x2.take k⟩
theorem ob_addt {as bs : List AV} (ha : as ≠ []) (hb : bs ≠ []) (hs : as.length + bs.length ≤ 10000) (k : K (.tup (as ++ bs)) H) : OB c A .Add (.tup as) (.tup bs) H K := TVs.of2 fun s _ _ _ _ I va vb P => by
  obtain ⟨x, us, n, rfl, _, e, hu⟩ := va
  obtain ⟨y, vs, m, rfl, _, f, hv⟩ := vb
  have lu := hu.length
  have lv := hv.length
  refine _root_.PySem.P.add_tuple e f ?_ ?_ ?_ ?_
  · intro q
    simp only [List.isEmpty_toArray, List.isEmpty_iff] at q
    rw [q] at lu; exact ha (List.length_eq_zero_iff.mp lu.symm)
  · intro q
    simp only [List.isEmpty_toArray, List.isEmpty_iff] at q
    rw [q] at lv; exact hb (List.length_eq_zero_iff.mp lv.symm)
  · have g := I.newTup (hu.append hv)
    rw [← List.append_toArray] at g
    exact P _ _ _ _ g.1 g.2.1 g.2.2 k
  · simp only [List.size_toArray, lu, lv]
    exact Nat.le_trans hs (by decide)
theorem ob_addl {as bs : List AV} (hs : as.length + bs.length ≤ 10000) (k : K (.lst (as ++ bs)) H) : OB c A .Add (.lst as) (.lst bs) H K := TVs.of2 fun s _ _ _ _ I va vb P => by
  obtain ⟨x, us, n, rfl, _, e, hu⟩ := va
  obtain ⟨y, vs, m, rfl, _, f, hv⟩ := vb
  have lu := hu.length
  have lv := hv.length
  refine _root_.PySem.P.add_list e f ?_ ?_
  · have g := I.newLst (hu.append hv)
    rw [← List.append_toArray] at g
    exact P _ _ _ _ g.1 g.2.1 g.2.2 k
  · simp only [List.size_toArray, lu, lv]
    exact Nat.le_trans hs (by decide)
theorem tupO_is {h : Heap} {a : Addr} {vs : List Value} {n : Nat} (e : h.get? a = some (tupO vs n)) : IsTup h a vs.toArray := ⟨_, e, rfl, n, rfl⟩
theorem tupO_isT {h : Heap} {a : Addr} {vs : List Value} {n : Nat} (e : h.get? a = some (tupO vs n)) : h.IsTuple a vs.toArray := ⟨_, e, rfl, n, rfl⟩
theorem lstO_is {h : Heap} {a : Addr} {vs : List Value} {n : Nat} (e : h.get? a = some (lstO vs n)) : h.IsList a vs.toArray := ⟨_, e, rfl, n, rfl⟩

noncomputable abbrev OSub (c : Cx) (A : Around) (value slice : Expr) (d₁ d₂ : AV) (H : HL) (K : AV → HL → Prop) : Prop := TVs c A (two (subscriptTail value slice)) [d₁, d₂] H K
noncomputable abbrev SubR (c : Cx) (A : Around) (value slice : Expr) (d₁ : AV) (K : AV → HL → Prop) : AV → HL → Prop := fun d₂ H₂ => OSub c A value slice d₁ d₂ H₂ K
noncomputable abbrev SubL (c : Cx) (A : Around) (env : Env) (value slice : Expr) (K : AV → HL → Prop) : AV → HL → Prop := fun d₁ H₁ => AE c A env slice H₁ (SubR c A value slice d₁ K)
theorem e_sub {value slice : Expr} {pos : Pos} (h : AE c A env value H (SubL c A env value slice K)) : AE c A env (.Subscript value slice pos) H K := by
  intro s E Q I P
  refine Subscript_ (h s E _ I fun s₁ a d₁ H₁ I₁ S₁ va h₁ => h₁ s₁ E _ I₁ fun s₂ b d₂ H₂ I₂ S₂ vb h₂ => ?_)
  exact h₂ s₂ [a, b] E Q I₂ (.two (V.step S₂ _ _ va) vb) (P.behind (S₁.trans S₂))
theorem os_tup {value slice : Expr} {l : List AV} {i : Int} {d : AV} (h0 : 0 ≤ i) (hl : l[i.toNat]? = some d) (hz : l.length ≤ 10000) (k : K d H)
    (hs : ∀ t u, subscripted slice false (.ref t) (.int i u) = operate [.ref t, .int i u] (getItem (.ref t) (.int i u)) := by intros; with_unfolding_all rfl) : OSub c A value slice (.tup l) (.int i) H K := TVs.of2 fun s _ _ _ _ I va vb P => by
  obtain ⟨x, us, n, rfl, _, e, hu⟩ := va
  obtain ⟨t, rfl⟩ := vb
  obtain ⟨v, hv, w⟩ := hu.get hl
  have lt : i.toNat < us.length := by
    rcases Nat.lt_or_ge i.toNat us.length with q | q
    · exact q
    · rw [List.getElem?_eq_none q] at hv; cases hv
  rw [hu.length] at lt
  refine item_tupleT (tupO_is e) (by omega) (by omega) (j := i.toNat) ?_ hv (P.here I w k) (hs _ _)
  rw [hu.length]
  unfold seqIndex?
  simp only [show ¬ i < 0 by omega, if_false]
  rw [if_pos (by simp; omega)]
theorem os_lst {value slice : Expr} {l : List AV} {i : Int} {d : AV} (h0 : 0 ≤ i) (hl : l[i.toNat]? = some d) (hz : l.length ≤ 10000) (k : K d H)
    (hs : ∀ t u, subscripted slice false (.ref t) (.int i u) = operate [.ref t, .int i u] (getItem (.ref t) (.int i u)) := by intros; with_unfolding_all rfl) : OSub c A value slice (.lst l) (.int i) H K := TVs.of2 fun s _ _ _ _ I va vb P => by
  obtain ⟨x, us, n, rfl, _, e, hu⟩ := va
  obtain ⟨t, rfl⟩ := vb
  obtain ⟨v, hv, w⟩ := hu.get hl
  have lt : i.toNat < us.length := by
    rcases Nat.lt_or_ge i.toNat us.length with q | q
    · exact q
    · rw [List.getElem?_eq_none q] at hv; cases hv
  rw [hu.length] at lt
  exact tail_any (lstO_is e).typeIs slot_list_getitem.lookup (wpAny_getItem_list (lstO_is e) h0 (by omega) (by simpa using hv) (P.here I w k)) (hs _ _)

/-! built-ins -/
theorem AC.of1 {f : AV} {d : AV} (h : ∀ s fv a E Q, Inv c H s → V s.heap (dom H) f fv → V s.heap (dom H) d a → Post c H s K Q → wpAny c.M A (call fv [a]) Q E s) : AC c A f [d] H K := by
  rintro s vs E Q I ⟨fv, _, rfl, hf, a, _, rfl, va, rfl⟩ P
  exact h s fv a E Q I hf va P
theorem AC.of2 {f : AV} {d d' : AV} (h : ∀ s fv a b E Q, Inv c H s → V s.heap (dom H) f fv → V s.heap (dom H) d a → V s.heap (dom H) d' b → Post c H s K Q → wpAny c.M A (call fv [a, b]) Q E s) : AC c A f [d, d'] H K := by
  rintro s vs E Q I ⟨fv, _, rfl, hf, a, _, rfl, va, b, _, rfl, vb, rfl⟩ P
  exact h s fv a b E Q I hf va vb P
/-- what isinstance says -/
inductive Kd where | list | tuple | str | int
noncomputable def Kd.name : Kd → String
  | .list => "list" | .tuple => "tuple" | .str => "str" | .int => "int"
noncomputable def isiT : Kd → AV → Option Bool
  | k, .none => match k with | .list | .tuple | .str | .int => some false
  | k, .bool _ => match k with | .list | .tuple | .str => some false | .int => some true
  | k, .int _ => match k with | .list | .tuple | .str => some false | .int => some true
  | k, .str _ => match k with | .list | .tuple | .int => some false | .str => some true
  | k, .tup _ => match k with | .list | .str | .int => some false | .tuple => some true
  | k, .lst _ => match k with | .tuple | .str | .int => some false | .list => some true
  | _, _ => none
theorem ac_isi {T : Kd} {d : AV} {b : Bool} (e : isiT T d = some b) (k : K (.bool b) H) : AC c A (.blt "isinstance") [d, .typ T.name] H K := AC.of2 fun s fv a tv E Q I hf va vt P => by
  cases hf; cases vt
  have q : Q (.bool b) s := P.here (d := .bool _) I rfl k
  have q' : Q (.bool b) { s with toks := s.toks + 1 } := P.tok (d := .bool _) I rfl k
  cases d with
  | none => cases va; cases T <;> cases e <;> first | exact IsiPair.NoneType_list q' | exact IsiPair.NoneType_tuple q' | exact IsiPair.NoneType_str q' | exact IsiPair.NoneType_int q'
  | bool b' => cases va; cases T <;> cases e <;> first | exact IsiPair.bool_list q' | exact IsiPair.bool_tuple q' | exact IsiPair.bool_str q' | exact IsiPair.bool_int q
  | int i => obtain ⟨t, rfl⟩ := va; cases T <;> cases e <;> first | exact IsiPair.int_list q' | exact IsiPair.int_tuple q' | exact IsiPair.int_str q' | exact IsiPair.int_int q
  | str x => obtain ⟨t, rfl⟩ := va; cases T <;> cases e <;> first | exact IsiPair.str_list q' | exact IsiPair.str_tuple q' | exact IsiPair.str_str q | exact IsiPair.str_int q'
  | tup l =>
    obtain ⟨x, us, n, rfl, _, he, _⟩ := va
    cases T <;> cases e <;> first | exact IsiPair.isTuple_list (tupO_isT he) (fun _ _ z => z) q' | exact IsiPair.isTuple_tuple (tupO_isT he) (fun _ _ z => z) q | exact IsiPair.isTuple_str (tupO_isT he) (fun _ _ z => z) q' | exact IsiPair.isTuple_int (tupO_isT he) (fun _ _ z => z) q'
  | lst l =>
    obtain ⟨x, us, n, rfl, _, he, _⟩ := va
    cases T <;> cases e <;> first | exact IsiPair.isList_list (lstO_is he) (fun _ _ z => z) q | exact IsiPair.isList_tuple (lstO_is he) (fun _ _ z => z) q' | exact IsiPair.isList_str (lstO_is he) (fun _ _ z => z) q' | exact IsiPair.isList_int (lstO_is he) (fun _ _ z => z) q'
  | _ => cases T <;> cases e
theorem ac_len_tup {l : List AV} (hz : l.length ≤ 10000) (k : K (.int l.length) H) : AC c A (.blt "len") [.tup l] H K := AC.of1 fun s fv a E Q I hf va P => by
  cases hf
  obtain ⟨x, us, n, rfl, _, e, hu⟩ := va
  refine len_tuple (tupO_is e) (by rw [List.size_toArray, hu.length]; omega) ?_
  rw [List.size_toArray, hu.length]
  exact P.tok (d := .int _) I ⟨_, rfl⟩ k
theorem ac_len_lst {l : List AV} (hz : l.length ≤ 10000) (k : K (.int l.length) H) : AC c A (.blt "len") [.lst l] H K := AC.of1 fun s fv a E Q I hf va P => by
  cases hf
  obtain ⟨x, us, n, rfl, _, e, hu⟩ := va
  refine len_list (lstO_is e) (by rw [List.size_toArray, hu.length]; omega) ?_
  rw [List.size_toArray, hu.length]
  exact P.tok (d := .int _) I ⟨_, rfl⟩ k
theorem ac_len_scr {l : List Int} (hz : l.length ≤ 10000) (k : K (.int l.length) H) : AC c A (.blt "len") [.scr l] H K := AC.of1 fun s fv a E Q I hf va P => by
  cases hf
  obtain ⟨x, us, rfl, _, e, hu⟩ := va
  refine len_list e (by rw [List.size_toArray, hu.length]; omega) ?_
  rw [List.size_toArray, hu.length]
  exact P.tok (d := .int _) I ⟨_, rfl⟩ k
theorem os_scr {value slice : Expr} {l : List Int} {i : Int} {n : Int} (h0 : 0 ≤ i) (hl : l[i.toNat]? = some n) (hz : l.length ≤ 10000) (k : K (.int n) H)
    (hs : ∀ t u, subscripted slice false (.ref t) (.int i u) = operate [.ref t, .int i u] (getItem (.ref t) (.int i u)) := by intros; with_unfolding_all rfl) : OSub c A value slice (.scr l) (.int i) H K := TVs.of2 fun s _ _ _ _ I va vb P => by
  obtain ⟨x, us, rfl, _, e, hu⟩ := va
  obtain ⟨t, rfl⟩ := vb
  have get : ∀ {vs : List Value} {ns : List Int} {j : Nat} {n : Int}, IntsAre vs ns → ns[j]? = some n → ∃ t, vs[j]? = some (.int n t) := by
    intro vs ns j n h
    induction h generalizing j with
    | nil => intro q; simp at q
    | cons m u _ ih =>
      cases j with
      | zero => intro q; cases q; exact ⟨u, rfl⟩
      | succ j => intro q; exact ih (by simpa using q)
  obtain ⟨v, hv⟩ := get hu hl
  have lt : i.toNat < us.length := by
    rcases Nat.lt_or_ge i.toNat us.length with q | q
    · exact q
    · rw [List.getElem?_eq_none q] at hv; cases hv
  rw [hu.length] at lt
  exact tail_any e.typeIs slot_list_getitem.lookup (wpAny_getItem_list e h0 (by omega) (by simpa using hv) (P.here (d := .int _) I ⟨_, rfl⟩ k)) (hs _ _)
theorem ac_int_int {n : Int} (k : K (.int n) H) : AC c A (.typ "int") [.int n] H K := AC.of1 fun s fv a E Q I hf va P => by
  cases hf; obtain ⟨t, rfl⟩ := va
  exact call_int_int (P.here (d := .int _) I ⟨_, rfl⟩ k)
theorem ac_int_bool {b : Bool} (k : K (.int (if b = true then 1 else 0)) H) : AC c A (.typ "int") [.bool b] H K := AC.of1 fun s fv a E Q I hf va P => by
  cases hf; cases va
  exact call_int_bool (P.tok (d := .int _) I ⟨_, rfl⟩ k)
theorem ac_max {a b : Int} (R : Room 1 A) (k : K (.int (if b > a then b else a)) H) : AC c A (.blt "max") [.int a, .int b] H K := AC.of2 fun s fv x y E Q I hf va vb P => by
  cases hf; obtain ⟨t, rfl⟩ := va; obtain ⟨u, rfl⟩ := vb
  refine max_two_ints R.handled fun h' tk hk => ?_
  have g := I.grow (t := tk) hk
  split
  · rename_i q; rw [if_pos q] at k; exact P _ _ (.int _) _ g.1 g.2 ⟨_, rfl⟩ k
  · rename_i q; rw [if_neg q] at k; exact P _ _ (.int _) _ g.1 g.2 ⟨_, rfl⟩ k
theorem ac_tuple_lst {l : List AV} (hz : l.length ≤ 10000) (k : K (.tup l) H) : AC c A (.typ "tuple") [.lst l] H K := AC.of1 fun s fv a E Q I hf va P => by
  cases hf
  obtain ⟨x, us, n, rfl, _, e, hu⟩ := va
  refine call_tuple_list (lstO_is e) (fun h' hk => ?_) (by rw [List.size_toArray, hu.length]; exact Nat.le_trans hz (by decide))
  have g := I.grow (t := s.toks) hk
  have g' := g.1.newTup (VL.step g.2 _ _ hu)
  exact P _ _ _ _ g'.1 (g.2.trans g'.2.1) g'.2.2 k
theorem ac_tuple_tup {l : List AV} (k : K (.tup l) H) : AC c A (.typ "tuple") [.tup l] H K := AC.of1 fun s fv a E Q I hf va P => by
  cases hf
  have va' := va
  obtain ⟨x, us, n, rfl, _, e, hu⟩ := va
  exact call_tuple_same (tupO_isT e) (P.here I va' k)
theorem ac_list_of {l : List AV} {d : AV} (hd : d = .tup l ∨ d = .lst l) (hz : l.length ≤ 10000) (k : K (.lst l) H) : AC c A (.typ "list") [d] H K := AC.of1 fun s fv a E Q I hf va P => by
  cases hf
  have body : ∀ {T : String} {o : Obj} {it : Addr} {us : List Value} {n : Nat}, (T = "list" ∨ T = "tuple") → s.heap.get? it = some o → o.cls = .type T → o.data = .seq us.toArray n → VL s.heap (dom H) l us →
      wpAny c.M A (call (.type "list") [.ref it]) Q E s := by
    intro T o it us n hT ho hc hd hu
    refine call_list_seq it hT ho hc hd (fun h' c' hk hl => ?_) (by rw [List.size_toArray, hu.length]; exact Nat.le_trans hz (by decide))
    have g := I.grow (t := s.toks) hk
    refine P _ _ (.lst l) _ g.1 g.2 ⟨_, us, c', rfl, fun m => ?_, hl, VL.step g.2 _ _ hu⟩ k
    obtain ⟨p, hp, q⟩ := List.mem_map.mp m
    obtain ⟨o, q'⟩ := (I.ok p hp).here
    exact Nat.lt_irrefl _ (q ▸ Heap.lt_size q')
  rcases hd with rfl | rfl
  · obtain ⟨x, us, n, rfl, _, e, hu⟩ := va
    exact body (.inr rfl) e rfl rfl hu
  · obtain ⟨x, us, n, rfl, _, e, hu⟩ := va
    exact body (.inl rfl) e rfl rfl hu
theorem Inv.new_off {s : Shared} (I : Inv c H s) : s.heap.objs.size ∉ dom H := fun m => by
  obtain ⟨p, hp, e⟩ := List.mem_map.mp m
  obtain ⟨o, q⟩ := (I.ok p hp).here
  exact Nat.lt_irrefl _ (e ▸ Heap.lt_size q)
theorem ac_range1 {n : Int} (k : K (.rng 0 n) H) : AC c A (.typ "range") [.int n] H K := AC.of1 fun s fv a E Q I hf va P => by
  cases hf; obtain ⟨t, rfl⟩ := va
  refine call_range_1 ?_
  have g := I.grow (h' := s.heap.push { cls := .type "range", data := .fields #[.int 0 s.toks, .int n t, .int 1 (s.toks + 1)] }) (t := s.toks + 1 + 1) fun b o e => Heap.get?_push_of_some _ e
  exact P _ _ (.rng 0 n) _ g.1 g.2 ⟨_, _, _, _, rfl, I.new_off, IsRange.new ..⟩ k
theorem ac_range2 {a b : Int} (k : K (.rng a b) H) : AC c A (.typ "range") [.int a, .int b] H K := AC.of2 fun s fv x y E Q I hf va vb P => by
  cases hf; obtain ⟨t, rfl⟩ := va; obtain ⟨u, rfl⟩ := vb
  refine call_range_2 ?_
  have g := I.grow (h' := s.heap.push { cls := .type "range", data := .fields #[.int a t, .int b u, .int 1 s.toks] }) (t := s.toks + 1) fun b o e => Heap.get?_push_of_some _ e
  exact P _ _ (.rng a b) _ g.1 g.2 ⟨_, _, _, _, rfl, I.new_off, IsRange.new ..⟩ k
theorem oc_in_strs {x : Str} {ys : List Str} (k : K (.bool (ys.any fun y => y == x)) H) : OCm c A .In (.str x) (.tup (ys.map .str)) H K := TVs.of2 fun s _ _ _ _ I va vb P => by
  obtain ⟨t, rfl⟩ := va
  obtain ⟨a, us, n, rfl, _, e, hu⟩ := vb
  have all : ∀ {ys : List Str} {us : List Value}, VL s.heap (dom H) (ys.map .str) us → StrsAre us ys := by
    intro ys
    induction ys with
    | nil => intro us h; cases h; exact .nil
    | cons y ys ih => intro us ⟨v, r, e, ⟨t, q⟩, h⟩; rw [e, q]; exact .cons _ _ (ih h)
  exact in_tuple_strs (tupO_is e) (all hu) (P.here (d := .bool _) I rfl k)
end
end Mine
end
section
open PySem PySem.W PySem.Calls PyProof.Rows
set_option Elab.async false
namespace Mine
section
variable {c : Cx} {A : Around} {env : Env} {H : HL}

noncomputable def itemsOf : AV → Option (List AV)
  | .tup l => some l
  | .lst l => some l
  | .rng a b => some ((List.range (b - a).toNat).map fun (k : Nat) => AV.int (a + k))
  | _ => none
noncomputable def smallR : AV → Bool
  | .rng a b => decide (-(2 ^ 62) ≤ a) && decide (a < 2 ^ 62) && decide (-(2 ^ 62) ≤ b) && decide (b < 2 ^ 62)
  | _ => true

theorem iter_start {d : AV} {l : List AV} {v : Value} {s : Shared} {E : Value → Shared → Prop} {Q : Value → Shared → Prop} (I : Inv c H s) (hv : V s.heap (dom H) d v) (hi : itemsOf d = some l) (hs : smallR d = true)
    (k : ∀ s' it, Inv c ((it, .itr l) :: H) s' → Step (dom H) s.heap (it :: dom H) s'.heap → Q (.ref it) s') : wpAny c.M A (pyIter v) Q E s := by
  cases d with
  | lst l' =>
    cases hi
    obtain ⟨a, vs, n, rfl, ha, e, hl⟩ := hv
    refine wpAny_pyIter_list (lstO_is e) ?_
    have S : Step (dom H) s.heap (s.heap.objs.size :: dom H) (s.heap.push { cls := .type "list_iterator", data := .fields #[.ref a, .int 0 0] }) := ⟨fun b o _ e => Heap.get?_push_of_some _ e, fun b m => by
      rcases List.mem_cons.mp m with rfl | m
      · exact .inr Inv.none_size
      · exact .inl m⟩
    have g := I.push (h' := s.heap.push { cls := .type "list_iterator", data := .fields #[.ref a, .int 0 0] }) (t := s.toks) (a := s.heap.objs.size) (m := .itr l) (fun b o e => Heap.get?_push_of_some _ e) Inv.none_size
      (.inl ⟨a, 0, vs, n, ⟨_, Heap.get?_push_size _ rfl, rfl, rfl⟩, S.off ha e, S.keep _ _ ha e, VL.step S _ _ hl⟩)
    exact k _ _ g.1 g.2
  | tup l' =>
    cases hi
    obtain ⟨a, vs, n, rfl, ha, e, hl⟩ := hv
    refine wpAny_pyIter_tuple (tupO_isT e) ?_
    have S : Step (dom H) s.heap (s.heap.objs.size :: dom H) (s.heap.push { cls := .type "tuple_iterator", data := .fields #[.ref a, .int 0 0] }) := ⟨fun b o _ e => Heap.get?_push_of_some _ e, fun b m => by
      rcases List.mem_cons.mp m with rfl | m
      · exact .inr Inv.none_size
      · exact .inl m⟩
    have g := I.push (h' := s.heap.push { cls := .type "tuple_iterator", data := .fields #[.ref a, .int 0 0] }) (t := s.toks) (a := s.heap.objs.size) (m := .itr l) (fun b o e => Heap.get?_push_of_some _ e) Inv.none_size
      (.inr (.inl ⟨a, 0, vs, n * 0, ⟨_, Heap.get?_push_size _ rfl, rfl, rfl⟩, S.off ha e, S.keep _ _ ha e, VL.step S _ _ hl⟩))
    exact k _ _ g.1 g.2
  | rng a b =>
    cases hi
    obtain ⟨x, t, u, w, rfl, hx, e⟩ := hv
    simp only [smallR, Bool.and_eq_true, decide_eq_true_eq] at hs
    refine wpAny_pyIter_range e (small_one hs.1.1.1 hs.1.1.2 hs.1.2 hs.2) ?_
    have hz : Builtin.Range.rangeSize a b 1 = ((b - a).toNat : Nat) := by
      rw [rangeSize_one]
      split <;> omega
    have g := I.push (h' := s.heap.push { cls := .type "range_iterator", data := .fields #[rawInt a, rawInt (Builtin.Range.rangeSize a b 1), rawInt 1] }) (t := s.toks) (a := s.heap.objs.size)
      (m := .itr ((List.range (b - a).toNat).map fun (k : Nat) => AV.int (a + k))) (fun b o e => Heap.get?_push_of_some _ e) Inv.none_size
      (.inr (.inr ⟨a, (b - a).toNat, by rw [← hz]; exact Heap.get?_push_size _ rfl, rfl⟩))
    exact k _ _ g.1 g.2
  | _ => cases hi

theorem iter_again {it : Addr} {l : List AV} {s : Shared} {E : Value → Shared → Prop} {Q : Value → Shared → Prop} (x : IterOk s.heap (dom H) it l) (k : Q (.ref it) s) : wpAny c.M A (pyIter (.ref it)) Q E s := by
  rcases x with ⟨l, i, vs, n, hi, _⟩ | ⟨l, i, vs, n, hi, _⟩ | ⟨x, n, hi, _⟩
  · exact wpAny_pyIter_listiter hi k
  · exact wpAny_pyIter_tupleiter hi k
  · exact wpAny_pyIter_rangeiter hi k

theorem iter_next {it : Addr} {d : AV} {l : List AV} {s : Shared} {E : Value → Shared → Prop} {Q : Option Value → Shared → Prop} (I : Inv c ((it, .itr (d :: l)) :: H) s)
    (k : ∀ s' v, Inv c ((it, .itr l) :: H) s' → Step (it :: dom H) s.heap (it :: dom H) s'.heap → V s'.heap (it :: dom H) d v → Q (some v) s') : wpAny c.M A (pyNext (.ref it)) Q E s := by
  have step : ∀ h', Heap.SameBut it s.heap h' → Step (it :: dom H) s.heap (it :: dom H) h' := fun h' hs => ⟨fun b o hb e => (hs.2 b fun q => hb (q ▸ .head _)).trans e, fun _ m => .inl m⟩
  rcases I.ok _ (.head _) with ⟨a, i, vs, n, hi, ha, e, hl⟩ | ⟨a, i, vs, n, hi, ha, e, hl⟩ | ⟨x, n, hi, hr⟩
  · obtain ⟨v, r, hd, hv, hl⟩ := hl
    have hx : vs[i]? = some v := by rw [← List.head?_drop, hd]; rfl
    have hr : vs.drop (i + 1) = r := by rw [← List.tail_drop, hd]; rfl
    refine wpAny_pyNext_list_item hi (lstO_is e) (by simpa using hx) fun h' hi' hs => ?_
    have S := step h' hs
    have g := Inv.upd (pre := []) I (h' := h') (t := s.toks) (m' := .itr l) hs (.inl ⟨a, i + 1, vs, n, hi', S.off ha e, S.keep _ _ ha e, hr ▸ VL.step S _ _ hl⟩)
    exact k _ v g.1 S (V.step S _ _ hv)
  · obtain ⟨v, r, hd, hv, hl⟩ := hl
    have hx : vs[i]? = some v := by rw [← List.head?_drop, hd]; rfl
    have hr : vs.drop (i + 1) = r := by rw [← List.tail_drop, hd]; rfl
    refine wpAny_pyNext_tuple_item hi (tupO_isT e) (by simpa using hx) fun h' hi' hs => ?_
    have S := step h' hs
    have g := Inv.upd (pre := []) I (h' := h') (t := s.toks) (m' := .itr l) hs (.inr (.inl ⟨a, i + 1, vs, n, hi', S.off ha e, S.keep _ _ ha e, hr ▸ VL.step S _ _ hl⟩))
    exact k _ v g.1 S (V.step S _ _ hv)
  · cases n with
    | zero => simp at hr
    | succ n =>
      rw [List.range_succ_eq_map, List.map_cons, List.map_map] at hr
      injection hr with hr1 hr2
      refine wpAny_pyNext_range_item hi (by omega) fun h' hi' hs => ?_
      have S := step h' hs
      have e1 : ((n + 1 : Nat) : Int) - 1 = n := by omega
      rw [e1] at hi'
      have e2 : l = (List.range n).map fun (k : Nat) => AV.int (x + 1 + k) := by
        rw [hr2]
        refine List.map_congr_left fun k _ => ?_
        simp only [Function.comp, Nat.succ_eq_add_one]
        congr 1
        omega
      have g := Inv.upd (pre := []) I (h' := h') (t := s.toks + 1) (m' := .itr l) hs (.inr (.inr ⟨x + 1, n, hi', e2⟩))
      refine k _ _ g.1 S ?_
      rw [hr1, show x + ((0 : Nat) : Int) = x by omega]
      exact ⟨_, rfl⟩

theorem iter_end {it : Addr} {s : Shared} {E : Value → Shared → Prop} {Q : Option Value → Shared → Prop} (I : Inv c ((it, .itr []) :: H) s) (hh : A.handled = none)
    (k : ∀ s', Inv c H s' → Step (it :: dom H) s.heap (dom H) s'.heap → Q none s') : wpAny c.M A (pyNext (.ref it)) Q E s := by
  have hn : it ∉ dom H := (List.nodup_cons.mp I.apart).1
  have fin : ∀ h', Heap.ExtBut it s.heap h' → Q none { s with heap := h' } := fun h' hs => by
    have S : Step (it :: dom H) s.heap (dom H) h' := ⟨fun b o hb e => hs b o (fun q => hb (q ▸ .head _)) e, fun _ m => .inl (.tail _ m)⟩
    refine k _ ⟨I.rest, fun b o e => hs b o (fun q => ?_) (I.base b o e), fun p m => I.off p (.tail _ m), fun p m => I.low p (.tail _ m), (List.nodup_cons.mp I.apart).2, fun p m => (I.ok p (.tail _ m)).step S fun o e => hs _ o (fun q => ?_) e⟩ S
    · exact I.notIn e (q ▸ .head _)
    · exact hn (q ▸ dom_mem m)
  rcases I.ok _ (.head _) with ⟨a, i, vs, n, hi, ha, e, hl⟩ | ⟨a, i, vs, n, hi, ha, e, hl⟩ | ⟨x, n, hi, hr⟩
  · refine wpAny_pyNext_list_end hh hi (lstO_is e) ?_ fin
    have : vs.drop i = [] := hl
    have := List.drop_eq_nil_iff.mp this
    exact Array.getElem?_eq_none (by simpa using this)
  · refine wpAny_pyNext_tuple_end hh hi (tupO_isT e) ?_ fin
    have : vs.drop i = [] := hl
    have := List.drop_eq_nil_iff.mp this
    exact Array.getElem?_eq_none (by simpa using this)
  · have : n = 0 := by
      have := congrArg List.length hr
      simpa using this.symm
    exact wpAny_pyNext_range_end hh hi (by omega) fin

theorem Inv.ns_norm {pre post : HL} {a : Addr} {l l' : List (Str × AV)} {s : Shared} (I : Inv c (pre ++ (a, .ns l) :: post) s) (h : ∀ x, l.lookup x = l'.lookup x) : Inv c (pre ++ (a, .ns l') :: post) s := by
  have hd : dom (pre ++ (a, .ns l') :: post) = dom (pre ++ (a, .ns l) :: post) := by simp [dom]
  refine ⟨I.rest, I.base, fun p m => ?_, fun p m => ?_, hd ▸ I.apart, fun p m => ?_⟩
  · rcases List.mem_append.mp m with m | m
    · exact I.off p (List.mem_append_left _ m)
    · rcases List.mem_cons.mp m with rfl | m
      · exact I.off (a, .ns l) (List.mem_append_right _ (.head _))
      · exact I.off p (List.mem_append_right _ (.tail _ m))
  · rcases List.mem_append.mp m with m | m
    · exact I.low p (List.mem_append_left _ m)
    · rcases List.mem_cons.mp m with rfl | m
      · exact I.low (a, .ns l) (List.mem_append_right _ (.head _))
      · exact I.low p (List.mem_append_right _ (.tail _ m))
  · rw [hd]
    rcases List.mem_append.mp m with m | m
    · exact I.ok p (List.mem_append_left _ m)
    · rcases List.mem_cons.mp m with rfl | m
      · obtain ⟨m, hn, hm⟩ := I.ok (a, .ns l) (List.mem_append_right _ (.head _))
        exact ⟨m, hn, fun x => h x ▸ hm x⟩
      · exact I.ok p (List.mem_append_right _ (.tail _ m))

/-- an object of the ledger goes away, however its heap object may have been turned -/
theorem Inv.forget {C : Addr} {m : MO} {s : Shared} (I : Inv c ((C, m) :: H) s) {h' : Heap} {t : Nat} (hs : ∀ b o, b ≠ C → s.heap.get? b = some o → h'.get? b = some o) :
    Inv c H { s with heap := h', toks := t } ∧ Step (C :: dom H) s.heap (dom H) h' := by
  have hn : C ∉ dom H := (List.nodup_cons.mp I.apart).1
  have S : Step (C :: dom H) s.heap (dom H) h' := ⟨fun b o hb e => hs b o (fun q => hb (q ▸ .head _)) e, fun _ m => .inl (.tail _ m)⟩
  refine ⟨⟨I.rest, fun b o e => hs b o (fun q => ?_) (I.base b o e), fun p m => I.off p (.tail _ m), fun p m => I.low p (.tail _ m), (List.nodup_cons.mp I.apart).2, fun p m => (I.ok p (.tail _ m)).step S fun o e => hs _ o (fun q => ?_) e⟩, S⟩
  · exact I.notIn e (q ▸ .head _)
  · exact hn (q ▸ dom_mem m)

/-- a list of the ledger is from now on never changed -/
theorem Inv.freeze {D : Addr} {l : List AV} {s : Shared} (I : Inv c ((D, .lst l) :: H) s) : Inv c H s ∧ Step (D :: dom H) s.heap (dom H) s.heap ∧ V s.heap (dom H) (.lst l) (.ref D) := by
  have g := I.drop
  obtain ⟨vs, n, e, hv⟩ := I.ok _ (.head _)
  exact ⟨g.1, g.2, D, vs, n, rfl, (List.nodup_cons.mp I.apart).1, e, VL.step g.2 _ _ hv⟩

/-- append to a list of the ledger -/
theorem append_led {pre post : HL} {D : Addr} {l : List AV} {d : AV} {v : Value} {s : Shared} {E : Value → Shared → Prop} {Q : Value → Shared → Prop} (I : Inv c (pre ++ (D, .lst l) :: post) s) (hv : V s.heap (dom (pre ++ (D, .lst l) :: post)) d v) (hz : l.length ≤ 10000)
    (k : ∀ s', Inv c (pre ++ (D, .lst (l ++ [d])) :: post) s' → Step (dom (pre ++ (D, .lst l) :: post)) s.heap (dom (pre ++ (D, .lst (l ++ [d])) :: post)) s'.heap → Q .none s') : wpAny c.M A (call (.builtin "list.append") [.ref D, v]) Q E s := by
  obtain ⟨vs, n, e, hl⟩ := I.ok (D, .lst l) (List.mem_append_right _ (.head _))
  have hz' : vs.toArray.size ≤ sizeLine := by rw [List.size_toArray, hl.length]; exact Nat.le_trans hz (by decide)
  refine wpAny_call_entry slot_list_append (lstO_is e).typeIs entry_list_append ?_ (args_list_append _ _)
  show wpAny _ _ (updateSeq D (·.push v) >>= fun _ => ret .none) _ _ s
  refine wpAny_bind (wpAny_updateSeq e rfl (wpAny_pure ⟨.none, rfl, ?_⟩))
  have hs := Heap.SameBut.update s.heap D (Obj.mapSeq (·.push v))
  have S : Step (dom (pre ++ (D, .lst l) :: post)) s.heap (dom (pre ++ (D, .lst l) :: post)) (s.heap.update D (Obj.mapSeq (·.push v))) :=
    ⟨fun b o hb e => (hs.2 b fun q => hb (by rw [q]; simp [dom])).trans e, fun _ m => .inl m⟩
  have e' := IsL.update (show IsL s.heap D vs.toArray n from e) (·.push v)
  simp only [List.push_toArray] at e'
  have g := I.upd (h' := s.heap.update D (Obj.mapSeq (·.push v))) (t := s.toks) (m' := .lst (l ++ [d])) hs ⟨vs ++ [v], _, e', (VL.step S _ _ hl).append (.one (V.step S _ _ hv))⟩
  exact k _ g.1 g.2
end
end Mine
end
section
open PySem PySem.W PySem.Calls PyProof.Rows
set_option Elab.async false
namespace Mine
section
variable {c : Cx} {A : Around} {env : Env}

theorem perm3 {a b d : Addr × MO} {H : HL} : (a :: b :: d :: H).Perm (b :: a :: d :: H) := List.Perm.swap _ _ _
theorem perm_c {a b : Addr × MO} {H : HL} : (a :: b :: H).Perm (b :: a :: H) := List.Perm.swap _ _ _
theorem perm_d {a b d : Addr × MO} {H : HL} : (a :: b :: d :: H).Perm (d :: a :: b :: H) :=
  ((List.Perm.swap d b H).cons a).trans (List.Perm.swap d a (b :: H))

theorem comp_core {elt iter : Expr} {x : Str} {px : Pos} {scope : Scope} {pos : Pos} {cl : List (Str × Addr)} {use : Option (Value → Sem Unit)} {Q : Value → Shared → Prop} {E : Value → Shared → Prop} {H₁ : HL} {l : List AV}
    {J : List AV → List AV → HL → Prop} (hh : A.handled = none) (hcell : ∀ y ∈ scope.names, y.2 ≠ .cell) (hkind : scope.kind = .function) (hx : (relabel scope env).names.lookup x = some .local)
    {s : Shared} (Is : Inv c H₁ s) {d : AV} {xv : Value} (hv : V s.heap (dom H₁) d xv) (hi : itemsOf d = some l) (hsm : smallR d = true) (hz : l.length ≤ 10000) (i0 : J [] [] H₁)
    (turn : ∀ C it D done item rest acc H', l = done ++ item :: rest → J done acc H' →
      AE c A (compEnvC scope cl C env) elt ((C, .ns [(x, item)]) :: (it, .itr rest) :: (D, .lst acc) :: H') (fun d' H'' => ∃ H₃, H'' = (C, .ns [(x, item)]) :: (it, .itr rest) :: (D, .lst acc) :: H₃ ∧ J (done ++ [item]) (acc ++ [d']) H₃))
    (fin : ∀ s' D C m0 acc H', J l acc H' → acc.length = l.length → Inv c ((C, .ns m0) :: H') s' → Step (dom H₁) s.heap (C :: dom H') s'.heap → V s'.heap (C :: dom H') (.lst acc) (.ref D) → compPost c.M A E use Q (.ref D) C (.ok .next) s') :
    wpAny c.M A (pyIter xv) (fun it s₂ => wpAny c.M A (newList []) (fun acc s₃ => wpAny c.M A (newFunctionEnv scope env.globals cl [] env.qual none .none (some env)) (fun cenv s₄ =>
      codeAny c.M A (.compStart (.ListComp elt [⟨.Name x px, iter, [], 0⟩] scope pos) 0 it acc { cenv with scope := relabel scope env }) (compPost c.M A E use Q acc cenv.locals) s₄) E s₃) E s₂) E s := by
  refine iter_start Is hv hi hsm fun s₁ it I₁ S₁ => ?_
  refine wpAny_newObj_type ?_
  have g2 := I₁.push (h' := s₁.heap.push { cls := .type "list", dict := none, data := .seq ([] : List Value).toArray }) (t := s₁.toks) (a := s₁.heap.objs.size) (m := .lst []) (fun b o e => Heap.get?_push_of_some _ e) Inv.none_size
    ⟨[], 0, Heap.get?_push_size _ rfl, rfl⟩
  generalize hD : s₁.heap.objs.size = D at g2 ⊢
  generalize hs2 : ({ s₁ with heap := s₁.heap.push { cls := .type "list", dict := none, data := .seq ([] : List Value).toArray } } : Shared) = s₂
  have I₂ : Inv c ((D, .lst []) :: (it, .itr l) :: H₁) s₂ := hs2 ▸ g2.1
  have S₂ : Step (it :: dom H₁) s₁.heap (D :: it :: dom H₁) s₂.heap := hs2 ▸ g2.2
  refine wpAny_newFunctionEnv hcell (by intro y hy; simp at hy) (fun h₃ hn hsb => ?_) hkind
  have g3 := I₂.push (h' := h₃) (t := s₂.toks + ([] : List (Str × Value)).length) (a := s₂.heap.objs.size) (m := .ns []) (fun b o e => hsb.extBut b o (Nat.ne_of_lt (Heap.lt_size e)) (Heap.get?_push_of_some _ e)) Inv.none_size
    ⟨_, hn, fun y => rfl⟩
  generalize hC : s₂.heap.objs.size = C at g3 ⊢
  have I₃ : Inv c ((C, .ns []) :: (it, .itr l) :: (D, .lst []) :: H₁) { s₂ with heap := h₃, toks := s₂.toks + ([] : List (Str × Value)).length } := (g3.1.perm (List.Perm.cons _ perm_c)).1
  have S₃ : Step (dom H₁) s.heap (dom ((C, MO.ns []) :: (it, .itr l) :: (D, .lst []) :: H₁)) h₃ := ((S₁.trans S₂).trans g3.2).trans (g3.1.perm (List.Perm.cons _ perm_c)).2
  show codeAny c.M A (.compStart (.ListComp elt [⟨.Name x px, iter, [], 0⟩] scope pos) 0 (.ref it) (.ref D) (compEnvC scope cl C env)) (compPost c.M A E use Q (.ref D) C) _
  have loop : codeAny c.M A (.compLoop (.ListComp elt [⟨.Name x px, iter, [], 0⟩] scope pos) 0 (.ref it) (.ref D) (compEnvC scope cl C env)) (compPost c.M A E use Q (.ref D) C) { s₂ with heap := h₃, toks := s₂.toks + ([] : List (Str × Value)).length } := by
    refine codeAny_compLoop_list (fun n s' => ∃ done acc rest H' ns0, l = done ++ rest ∧ rest.length = n ∧ acc.length = done.length ∧ J done acc H' ∧ Inv c ((C, .ns ns0) :: (it, .itr rest) :: (D, .lst acc) :: H') s' ∧
        Step (dom H₁) s.heap (C :: it :: D :: dom H') s'.heap ∧ ∀ y, y ≠ x → ns0.lookup y = none) ?_ l.length
      ⟨[], [], l, H₁, [], rfl, rfl, rfl, i0, I₃, S₃, fun _ _ => rfl⟩
    rintro n s' ⟨done, acc, rest, H', ns0, hl, rfl, hlen, hJ, I', S', hns⟩
    cases rest with
    | nil =>
      rw [List.append_nil] at hl
      subst hl
      have p1 := I'.perm (perm_c (a := (C, .ns ns0)))
      refine iter_end p1.1 hh fun s₅ I₅ S₅ => ?_
      have p2 := I₅.perm perm_c
      have f := p2.1.freeze
      exact fin s₅ D C ns0 acc H' hJ hlen f.1 ((((S'.trans p1.2).trans S₅).trans p2.2).trans f.2.1) f.2.2
    | cons item rest =>
      have p1 := I'.perm (perm_c (a := (C, .ns ns0)))
      refine iter_next p1.1 fun s₅ v I₅ S₅ hvv => ?_
      have p2 := I₅.perm perm_c
      have Sx := ((S'.trans p1.2).trans S₅).trans p2.2
      refine wpAny_assign_Name ?_
      have st := st_local (c := c) (A := A) (env := compEnvC scope cl C env) (x := x) (d := item) (pre := []) (post := (it, .itr rest) :: (D, .lst acc) :: H') (l := ns0)
        (Kn := fun H'' => H'' = (C, .ns ((x, item) :: ns0)) :: (it, .itr rest) :: (D, .lst acc) :: H') hx hkind rfl
      refine st s₅ [v] _ _ p2.1 (.one (V.step p2.2 _ _ hvv)) fun s₆ H₆ I₆ S₆ e => ?_
      subst e
      have I₆' : Inv c ((C, .ns [(x, item)]) :: (it, .itr rest) :: (D, .lst acc) :: H') s₆ := Inv.ns_norm (pre := []) I₆ fun y => by
        rw [List.lookup_cons, List.lookup_cons]
        by_cases hy : y = x
        · subst hy; simp
        · have hb : (y == x) = false := beq_eq_false_iff_ne.mpr hy
          simp only [hb]
          rw [hns y hy]; rfl
      refine turn C it D done item rest acc H' hl hJ s₆ _ _ I₆' fun s₇ u d' H₇ I₇ S₇ hu hk => ?_
      obtain ⟨H₃, rfl, hJ'⟩ := hk
      have la : acc.length ≤ 10000 := by
        rw [hlen]
        have := congrArg List.length hl
        rw [List.length_append] at this
        omega
      refine append_led (pre := [(C, .ns [(x, item)]), (it, .itr rest)]) I₇ hu la fun s₈ I₈ S₈ => ?_
      refine ⟨rest.length, Nat.lt_succ_self _, done ++ [item], acc ++ [d'], rest, H₃, [(x, item)], by rw [hl]; simp, rfl, by simp [hlen], hJ', I₈, ((Sx.trans S₆).trans S₇).trans S₈, fun y hy => ?_⟩
      have hb : (y == x) = false := beq_eq_false_iff_ne.mpr hy
      simp [List.lookup_cons, hb]
  have hit := I₃.ok (it, .itr l) (.tail _ (.head _))
  exact codeAny_compStart_list loop (iter_again hit loop)

/-- one name, no test; J: what holds between the turns (done, made so far, ledger) -/
theorem e_comp {elt iter : Expr} {x : Str} {px : Pos} {scope : Scope} {pos : Pos} {cl : List (Str × Addr)} {H : HL} {K : AV → HL → Prop} (hh : A.handled = none) (hclos : closureFor scope env = pure cl) (hcell : ∀ y ∈ scope.names, y.2 ≠ .cell) (hkind : scope.kind = .function)
    (hnames : ∀ y ∈ scope.names, y.2 = .local → scope.names.lookup y.1 = some .local) (hx : (relabel scope env).names.lookup x = some .local)
    (h : AE c A env iter H fun d H₁ => ∃ l, itemsOf d = some l ∧ smallR d = true ∧ l.length ≤ 10000 ∧ ∃ J : List AV → List AV → HL → Prop, J [] [] H₁ ∧
      (∀ C it D done item rest acc H', l = done ++ item :: rest → J done acc H' →
        AE c A (compEnvC scope cl C env) elt ((C, .ns [(x, item)]) :: (it, .itr rest) :: (D, .lst acc) :: H') (fun d' H'' => ∃ H₃, H'' = (C, .ns [(x, item)]) :: (it, .itr rest) :: (D, .lst acc) :: H₃ ∧ J (done ++ [item]) (acc ++ [d']) H₃)) ∧
      (∀ acc H', J l acc H' → acc.length = l.length → K (.lst acc) H'))
    (hs : ∀ x, foldedSetIterable iter env x = pure x := by intro _; with_unfolding_all rfl) : AE c A env (.ListComp elt [⟨.Name x px, iter, [], 0⟩] scope pos) H K := by
  intro s E Q I P
  show wpAny _ _ (eval (.ListComp elt [⟨.Name x px, iter, [], 0⟩] scope pos) env) _ _ _
  rw [eval_ListComp]
  refine wpAny_comprehension_free rfl hs hclos hkind hnames (h s E _ I fun s₁ xv d H₁ I₁ S₁ hv k => ?_)
  obtain ⟨l, hi, hsm, hz, J, i0, turn, fin⟩ := k
  refine comp_core hh hcell hkind hx I₁ hv hi hsm hz i0 turn fun s' D C m0 acc H' hJ hlen I' S' hv' => ?_
  obtain ⟨m, hn, _⟩ := I'.ok _ (.head _)
  refine ⟨m, hn, fun h' hs' => ?_⟩
  have f := I'.forget (h' := h') (t := s'.toks) fun b o hb e => (hs'.2 b hb).trans e
  exact P _ _ _ _ f.1 ((S₁.trans S').trans f.2) (V.step f.2 _ _ hv') (fin acc H' hJ hlen)

/-- the same, stored at once into a name of the frame's -/
theorem s_comp {elt iter : Expr} {x y : Str} {px py : Pos} {scope : Scope} {pos spos : Pos} {cl : List (Str × Addr)} {H : HL} {Kn : HL → Prop} {Kr : AV → HL → Prop} (hh : A.handled = none) (hclos : closureFor scope env = pure cl) (hcell : ∀ y ∈ scope.names, y.2 ≠ .cell) (hkind : scope.kind = .function)
    (hnames : ∀ y ∈ scope.names, y.2 = .local → scope.names.lookup y.1 = some .local) (hx : (relabel scope env).names.lookup x = some .local)
    (h : AE c A env iter H fun d H₁ => ∃ l, itemsOf d = some l ∧ smallR d = true ∧ l.length ≤ 10000 ∧ ∃ J : List AV → List AV → HL → Prop, J [] [] H₁ ∧
      (∀ C it D done item rest acc H', l = done ++ item :: rest → J done acc H' →
        AE c A (compEnvC scope cl C env) elt ((C, .ns [(x, item)]) :: (it, .itr rest) :: (D, .lst acc) :: H') (fun d' H'' => ∃ H₃, H'' = (C, .ns [(x, item)]) :: (it, .itr rest) :: (D, .lst acc) :: H₃ ∧ J (done ++ [item]) (acc ++ [d']) H₃)) ∧
      (∀ acc H' C m0, J l acc H' → acc.length = l.length → ST c A env y (.lst acc) ((C, .ns m0) :: H') (fun H'' => ∃ H₃, H'' = (C, .ns m0) :: H₃ ∧ Kn H₃)))
    (hu : swapsWith (.ListComp elt [⟨.Name x px, iter, [], 0⟩] scope pos) (some (.Name y py)) spos.line env = pure true)
    (hs : ∀ x, foldedSetIterable iter env x = pure x := by intro _; with_unfolding_all rfl) : AS c A env (.Assign [.Name y py] (.ListComp elt [⟨.Name x px, iter, [], 0⟩] scope pos) spos) H Kn Kr := by
  intro s E Q I P _
  show wpAny _ _ (exec (.Assign [.Name y py] (.ListComp elt [⟨.Name x px, iter, [], 0⟩] scope pos) spos) env) _ _ _
  rw [exec_Assign_Name_used _ _ _ _ hu]
  refine wpAny_bind (wpAny_standAt (wpAny_bind ?_))
  show wpAny _ _ (comprehension (.ListComp elt [⟨.Name x px, iter, [], 0⟩] scope pos) scope env (firstIterPos [⟨.Name x px, iter, [], 0⟩] pos) (newList []) (firstAsync [⟨.Name x px, iter, [], 0⟩]) (firstIter [⟨.Name x px, iter, [], 0⟩] env) (some (assign (.Name y py) env)) >>= fun _ => pure ()) _ _ _
  refine wpAny_bind (wpAny_comprehension_free rfl hs hclos hkind hnames (h s E _ I fun s₁ xv d H₁ I₁ S₁ hv k => ?_))
  obtain ⟨l, hi, hsm, hz, J, i0, turn, fin⟩ := k
  refine comp_core hh hcell hkind hx I₁ hv hi hsm hz i0 turn fun s' D C m0 acc H' hJ hlen I' S' hv' => ?_
  show wpAny _ _ (assign (.Name y py) env (.ref D)) _ _ _
  refine wpAny_assign_Name (fin acc H' C m0 hJ hlen s' [.ref D] _ _ I' (.one hv') fun s₂ H₂ I₂ S₂ k₂ => ?_)
  obtain ⟨H₃, rfl, k₃⟩ := k₂
  obtain ⟨m, hn, _⟩ := I₂.ok _ (.head _)
  refine ⟨m, hn, fun h' hs' => ?_⟩
  have f := I₂.forget (h' := h') (t := s₂.toks) fun b o hb e => (hs'.2 b hb).trans e
  exact wpAny_pure (wpAny_pure (P _ _ f.1 (((S₁.trans S').trans S₂).trans f.2) k₃))
end
end Mine
end
section
open PySem PySem.W PySem.Calls PyProof.Rows
set_option Elab.async false
namespace Mine
section
variable {prog : Program} {w : World} {A : Around} {R : Result → Shared → Prop} {s : Shared}
noncomputable abbrev comp2 (elt : Expr) (t0 i0 t1 i1 : Expr) (scope : Scope) (pos : Pos) : Expr := .ListComp elt [⟨t0, i0, [], 0⟩, ⟨t1, i1, [], 0⟩] scope pos
theorem compTurn2_0 (elt t0 i0 t1 i1 : Expr) (scope : Scope) (pos : Pos) (it acc : Value) (env : Env) :
    compTurn (comp2 elt t0 i0 t1 i1 scope pos) 0 it acc env = (standAt i0.pos >>= fun _ => pyNext it >>= fun r => match r with
      | none => pure (.done .next)
      | some v => letOwnedTupleGo t0 it v >>= fun _ => assign t0 env v >>= fun _ => eval i1 env >>= fun x => standAt i1.pos >>= fun _ => foldedSetIterable i1 env x >>= fun x =>
          holding [x] (pyIter x) >>= fun it1 => runOwn (.compStart (comp2 elt t0 i0 t1 i1 scope pos) 1 it1 acc env) env >>= fun _ => again (.compLoop (comp2 elt t0 i0 t1 i1 scope pos) 0 it acc env)) := by rfl
theorem compTurn2_1 (elt t0 i0 t1 i1 : Expr) (scope : Scope) (pos : Pos) (it acc : Value) (env : Env) :
    compTurn (comp2 elt t0 i0 t1 i1 scope pos) 1 it acc env = (standAt i1.pos >>= fun _ => pyNext it >>= fun r => match r with
      | none => pure (.done .next)
      | some v => letOwnedTupleGo t1 it v >>= fun _ => assign t1 env v >>= fun _ =>
          (eval elt env >>= fun x => call (.builtin "list.append") [acc, x] >>= fun _ => pure ()) >>= fun _ => again (.compLoop (comp2 elt t0 i0 t1 i1 scope pos) 1 it acc env)) := by rfl
theorem compStart2_1 {elt t0 i0 t1 i1 : Expr} {scope : Scope} {pos : Pos} {it acc : Value} {env : Env}
    (h0 : codeAny (model prog w) A (.compLoop (comp2 elt t0 i0 t1 i1 scope pos) 1 it acc env) R s)
    (h : wpAny (model prog w) A (pyIter it) (fun it' s' => codeAny (model prog w) A (.compLoop (comp2 elt t0 i0 t1 i1 scope pos) 1 it' acc env) R s')
      (notedBy (model prog w) A env fun x s' => R (.error x) s') s) :
    codeAny (model prog w) A (.compStart (comp2 elt t0 i0 t1 i1 scope pos) 1 it acc env) R s := by
  refine codeAny_of_tree ?_
  show wpAny _ _ ((compStart (comp2 elt t0 i0 t1 i1 scope pos) 1 it acc env).onRaise (fun x => do noteFrame x env; standAt theWindowsPlace)) _ _ s
  refine wpAny_notedAt ?_
  unfold compStart
  show wpAny _ _ (ask >>= _) _ _ s
  refine wpAny_bind (wpAny_askSetting (wpAny_ite ?_))
  split
  · first
      | exact wpAny_bind (wpAny_pure (wpAny_pure (And.intro rfl h0)))
      | exact wpAny_pure (And.intro rfl h0)
  · first
      | exact wpAny_bind (wpAny_rule (wpAny_bind (wpAny_standAt (wpAny_bind (wpAny_mono h (fun it' s' h' => wpAny_pure (And.intro rfl h')) fun _ _ x => x)))))
      | (refine wpAny_bind (wpAny_rule ?_); show wpAny _ _ (standAt i1.pos >>= _) _ _ s; exact wpAny_bind (wpAny_standAt (wpAny_bind (wpAny_mono h (fun it' s' h' => wpAny_pure (And.intro rfl h')) fun _ _ x => x))))
theorem compLoop2_0 {elt t0 i0 t1 i1 : Expr} {scope : Scope} {pos : Pos} {it acc : Value} {env : Env} (I : Nat → Shared → Prop)
    (turn : ∀ n s, I n s → wpAny (model prog w) A (pyNext it) (fun r s₁ => match r with
      | none => R (.ok .next) s₁
      | some v => wpAny (model prog w) A (assign t0 env v) (fun _ s₂ => wpAny (model prog w) A (eval i1 env) (fun x s₃ =>
          wpAny (model prog w) A (pyIter x) (fun it1 s₄ => wpAny (model prog w) A (runOwn (.compStart (comp2 elt t0 i0 t1 i1 scope pos) 1 it1 acc env) env) (fun _ s₅ => ∃ m, m < n ∧ I m s₅) (notedBy (model prog w) A env fun e s' => R (.error e) s') s₄)
          (notedBy (model prog w) A env fun e s' => R (.error e) s') s₃)
          (notedBy (model prog w) A env fun e s' => R (.error e) s') s₂) (notedBy (model prog w) A env fun e s' => R (.error e) s') s₁) (notedBy (model prog w) A env fun e s' => R (.error e) s') s)
    (n : Nat) (h : I n s) (ht : ∀ v, letOwnedTupleGo t0 it v = pure () := by intro _; with_unfolding_all rfl) (hs : ∀ x, foldedSetIterable i1 env x = pure x := by intro _; with_unfolding_all rfl) :
    codeAny (model prog w) A (.compLoop (comp2 elt t0 i0 t1 i1 scope pos) 0 it acc env) R s := by
  refine codeAny_loop rfl I (fun n s hI => ?_) n h
  show wpAny _ _ ((compTurn (comp2 elt t0 i0 t1 i1 scope pos) 0 it acc env).onRaise (fun x => do noteFrame x env; theTreesLotGoes x)) _ _ s
  refine wpAny_noted ?_
  rw [compTurn2_0]
  refine wpAny_bind (wpAny_standAt (wpAny_bind (wpAny_mono (turn n s hI) (fun r s₁ h₁ => ?_) fun _ _ h' => h')))
  cases r with
  | none => exact wpAny_pure h₁
  | some v =>
    refine wpAny_bind (wpAny_of_eq (ht v) ?_)
    refine wpAny_bind (wpAny_mono h₁ (fun _ s₂ h₂ => ?_) fun _ _ h' => h')
    refine wpAny_bind (wpAny_mono h₂ (fun x s₃ h₃ => ?_) fun _ _ h' => h')
    refine wpAny_bind (wpAny_standAt (wpAny_bind (wpAny_of_eq (hs x) ?_)))
    refine wpAny_bind (wpAny_holding (wpAny_mono h₃ (fun it1 s₄ h₄ => ?_) fun _ _ h' => h'))
    exact wpAny_bind (wpAny_mono h₄ (fun _ s₅ h₅ => wpAny_pure ⟨rfl, h₅⟩) fun _ _ h' => h')
theorem compLoop2_1 {elt t0 i0 t1 i1 : Expr} {scope : Scope} {pos : Pos} {it acc : Value} {env : Env} (I : Nat → Shared → Prop)
    (turn : ∀ n s, I n s → wpAny (model prog w) A (pyNext it) (fun r s₁ => match r with
      | none => R (.ok .next) s₁
      | some v => wpAny (model prog w) A (assign t1 env v) (fun _ s₂ => wpAny (model prog w) A (eval elt env) (fun x s₃ =>
          wpAny (model prog w) A (call (.builtin "list.append") [acc, x]) (fun _ s₄ => ∃ m, m < n ∧ I m s₄) (notedBy (model prog w) A env fun e s' => R (.error e) s') s₃)
          (notedBy (model prog w) A env fun e s' => R (.error e) s') s₂) (notedBy (model prog w) A env fun e s' => R (.error e) s') s₁) (notedBy (model prog w) A env fun e s' => R (.error e) s') s)
    (n : Nat) (h : I n s) (ht : ∀ v, letOwnedTupleGo t1 it v = pure () := by intro _; with_unfolding_all rfl) :
    codeAny (model prog w) A (.compLoop (comp2 elt t0 i0 t1 i1 scope pos) 1 it acc env) R s := by
  refine codeAny_loop rfl I (fun n s hI => ?_) n h
  show wpAny _ _ ((compTurn (comp2 elt t0 i0 t1 i1 scope pos) 1 it acc env).onRaise (fun x => do noteFrame x env; theTreesLotGoes x)) _ _ s
  refine wpAny_noted ?_
  rw [compTurn2_1]
  refine wpAny_bind (wpAny_standAt (wpAny_bind (wpAny_mono (turn n s hI) (fun r s₁ h₁ => ?_) fun _ _ h' => h')))
  cases r with
  | none => exact wpAny_pure h₁
  | some v =>
    refine wpAny_bind (wpAny_of_eq (ht v) ?_)
    exact wpAny_bind (wpAny_mono h₁ (fun _ s₂ h₂ => wpAny_bind (wpAny_bind (wpAny_mono h₂ (fun x s₃ h₃ => wpAny_bind (wpAny_mono h₃
      (fun _ s₄ h₄ => wpAny_pure (wpAny_pure ⟨rfl, h₄⟩)) fun _ _ h' => h')) fun _ _ h' => h'))) fun _ _ h' => h')
end
section
variable {c : Cx} {A : Around} {env : Env}
theorem perm_e {a b d e : Addr × MO} {H : HL} : (a :: b :: d :: e :: H).Perm (d :: a :: b :: e :: H) := perm_d

/-- the two loops' words -/
noncomputable def Turn2 (c : Cx) (A : Around) (env : Env) (scope : Scope) (cl : List (Str × Addr)) (elt i1 : Expr) (x0 x1 : Str) (l : List AV) (J : List AV → List AV → HL → Prop) : Prop :=
  ∀ C it D old done item rest acc H', l = done ++ item :: rest → J done acc H' →
    AE c A (compEnvC scope cl C env) i1 ((C, .ns ((x0, item) :: old)) :: (it, .itr rest) :: (D, .lst acc) :: H') (fun d1 H'' => ∃ H₃ old', H'' = (C, .ns old') :: (it, .itr rest) :: (D, .lst acc) :: H₃ ∧
      ∃ l1, itemsOf d1 = some l1 ∧ smallR d1 = true ∧ acc.length + l1.length ≤ 10000 ∧ ∃ J1 : List AV → List AV → HL → Prop, J1 [] acc H₃ ∧
        (∀ it1 old1 done1 item1 rest1 acc1 H₄, l1 = done1 ++ item1 :: rest1 → J1 done1 acc1 H₄ →
          AE c A (compEnvC scope cl C env) elt ((C, .ns ((x1, item1) :: old1)) :: (it1, .itr rest1) :: (it, .itr rest) :: (D, .lst acc1) :: H₄)
            (fun d' H₅ => ∃ H₆ old2, H₅ = (C, .ns old2) :: (it1, .itr rest1) :: (it, .itr rest) :: (D, .lst acc1) :: H₆ ∧ J1 (done1 ++ [item1]) (acc1 ++ [d']) H₆)) ∧
        (∀ acc1 H₄, J1 l1 acc1 H₄ → J (done ++ [item]) acc1 H₄))

theorem comp2_core {elt i0 i1 : Expr} {x0 x1 : Str} {p0 p1 : Pos} {scope : Scope} {pos : Pos} {cl : List (Str × Addr)} {use : Option (Value → Sem Unit)} {Q : Value → Shared → Prop} {E : Value → Shared → Prop} {H₁ : HL} {l : List AV}
    {J : List AV → List AV → HL → Prop} (hh : A.handled = none) (hcell : ∀ y ∈ scope.names, y.2 ≠ .cell) (hkind : scope.kind = .function) (hx0 : (relabel scope env).names.lookup x0 = some .local) (hx1 : (relabel scope env).names.lookup x1 = some .local)
    {s : Shared} (Is : Inv c H₁ s) {d : AV} {xv : Value} (hv : V s.heap (dom H₁) d xv) (hi : itemsOf d = some l) (hsm : smallR d = true) (j0 : J [] [] H₁)
    (turn : Turn2 c A env scope cl elt i1 x0 x1 l J)
    (fin : ∀ s' D C m0 acc H', J l acc H' → Inv c ((C, .ns m0) :: H') s' → Step (dom H₁) s.heap (C :: dom H') s'.heap → V s'.heap (C :: dom H') (.lst acc) (.ref D) → compPost c.M A E use Q (.ref D) C (.ok .next) s')
    (hs1 : ∀ env x, foldedSetIterable i1 env x = pure x) :
    wpAny c.M A (pyIter xv) (fun it s₂ => wpAny c.M A (newList []) (fun acc s₃ => wpAny c.M A (newFunctionEnv scope env.globals cl [] env.qual none .none (some env)) (fun cenv s₄ =>
      codeAny c.M A (.compStart (comp2 elt (.Name x0 p0) i0 (.Name x1 p1) i1 scope pos) 0 it acc { cenv with scope := relabel scope env }) (compPost c.M A E use Q acc cenv.locals) s₄) E s₃) E s₂) E s := by
  refine iter_start Is hv hi hsm fun s₁ it I₁ S₁ => ?_
  refine wpAny_newObj_type ?_
  have g2 := I₁.push (h' := s₁.heap.push { cls := .type "list", dict := none, data := .seq ([] : List Value).toArray }) (t := s₁.toks) (a := s₁.heap.objs.size) (m := .lst []) (fun b o e => Heap.get?_push_of_some _ e) Inv.none_size
    ⟨[], 0, Heap.get?_push_size _ rfl, rfl⟩
  generalize hD : s₁.heap.objs.size = D at g2 ⊢
  generalize hs2 : ({ s₁ with heap := s₁.heap.push { cls := .type "list", dict := none, data := .seq ([] : List Value).toArray } } : Shared) = s₂
  have I₂ : Inv c ((D, .lst []) :: (it, .itr l) :: H₁) s₂ := hs2 ▸ g2.1
  have S₂ : Step (it :: dom H₁) s₁.heap (D :: it :: dom H₁) s₂.heap := hs2 ▸ g2.2
  refine wpAny_newFunctionEnv hcell (by intro y hy; simp at hy) (fun h₃ hn hsb => ?_) hkind
  have g3 := I₂.push (h' := h₃) (t := s₂.toks + ([] : List (Str × Value)).length) (a := s₂.heap.objs.size) (m := .ns []) (fun b o e => hsb.extBut b o (Nat.ne_of_lt (Heap.lt_size e)) (Heap.get?_push_of_some _ e)) Inv.none_size
    ⟨_, hn, fun y => rfl⟩
  generalize hC : s₂.heap.objs.size = C at g3 ⊢
  have I₃ : Inv c ((C, .ns []) :: (it, .itr l) :: (D, .lst []) :: H₁) { s₂ with heap := h₃, toks := s₂.toks + ([] : List (Str × Value)).length } := (g3.1.perm (List.Perm.cons _ perm_c)).1
  have S₃ : Step (dom H₁) s.heap (dom ((C, MO.ns []) :: (it, .itr l) :: (D, .lst []) :: H₁)) h₃ := ((S₁.trans S₂).trans g3.2).trans (g3.1.perm (List.Perm.cons _ perm_c)).2
  show codeAny c.M A (.compStart (comp2 elt (.Name x0 p0) i0 (.Name x1 p1) i1 scope pos) 0 (.ref it) (.ref D) (compEnvC scope cl C env)) (compPost c.M A E use Q (.ref D) C) _
  have loop : codeAny c.M A (.compLoop (comp2 elt (.Name x0 p0) i0 (.Name x1 p1) i1 scope pos) 0 (.ref it) (.ref D) (compEnvC scope cl C env)) (compPost c.M A E use Q (.ref D) C) { s₂ with heap := h₃, toks := s₂.toks + ([] : List (Str × Value)).length } := by
    refine compLoop2_0 (hs := hs1 _) (fun n s' => ∃ done acc rest H' ns0, l = done ++ rest ∧ rest.length = n ∧ J done acc H' ∧ Inv c ((C, .ns ns0) :: (it, .itr rest) :: (D, .lst acc) :: H') s' ∧
        Step (dom H₁) s.heap (C :: it :: D :: dom H') s'.heap) ?_ l.length
      ⟨[], [], l, H₁, [], rfl, rfl, j0, I₃, S₃⟩
    rintro n s' ⟨done, acc, rest, H', ns0, hl, rfl, hJ, I', S'⟩
    cases rest with
    | nil =>
      rw [List.append_nil] at hl
      subst hl
      have q1 := I'.perm (perm_c (a := (C, .ns ns0)))
      refine iter_end q1.1 hh fun s₅ I₅ S₅ => ?_
      have q2 := I₅.perm perm_c
      have f := q2.1.freeze
      exact fin s₅ D C ns0 acc H' hJ f.1 ((((S'.trans q1.2).trans S₅).trans q2.2).trans f.2.1) f.2.2
    | cons item rest =>
      have q1 := I'.perm (perm_c (a := (C, .ns ns0)))
      refine iter_next q1.1 fun s₅ v I₅ S₅ hvv => ?_
      have q2 := I₅.perm perm_c
      have Sx := ((S'.trans q1.2).trans S₅).trans q2.2
      refine wpAny_assign_Name ?_
      have st := st_local (c := c) (A := A) (env := compEnvC scope cl C env) (x := x0) (d := item) (pre := []) (post := (it, .itr rest) :: (D, .lst acc) :: H') (l := ns0)
        (Kn := fun H'' => H'' = (C, .ns ((x0, item) :: ns0)) :: (it, .itr rest) :: (D, .lst acc) :: H') hx0 hkind rfl
      refine st s₅ [v] _ _ q2.1 (.one (V.step q2.2 _ _ hvv)) fun s₆ H₆ I₆ S₆ e => ?_
      subst e
      refine turn C it D ns0 done item rest acc H' hl hJ s₆ _ _ I₆ fun s₇ xv1 d1 H₇ I₇ S₇ hv1 hk => ?_
      obtain ⟨H₃, old', rfl, l1, hi1, hsm1, hz1, J1, j10, turn1, fin1⟩ := hk
      refine iter_start I₇ hv1 hi1 hsm1 fun s₈ it1 I₈ S₈ => ?_
      have q3 := I₈.perm (perm_c (a := (it1, .itr l1)) (b := (C, .ns old')))
      have Sy := ((((Sx.trans S₆).trans S₇).trans S₈).trans q3.2)
      have loop1 : codeAny c.M (A.mark none) (.compLoop (comp2 elt (.Name x0 p0) i0 (.Name x1 p1) i1 scope pos) 1 (.ref it1) (.ref D) (compEnvC scope cl C env)) (fun r s' => match r with
          | .ok _ => ∃ m, m < (item :: rest).length ∧ ∃ done acc rest H' ns0, l = done ++ rest ∧ rest.length = m ∧ J done acc H' ∧ Inv c ((C, .ns ns0) :: (it, .itr rest) :: (D, .lst acc) :: H') s' ∧ Step (dom H₁) s.heap (C :: it :: D :: dom H') s'.heap
          | .error e => cameBackBy c.M A (compEnvC scope cl C env) (notedBy c.M A (compEnvC scope cl C env) fun e s' => compPost c.M A E use Q (.ref D) C (.error e) s') e s') s₈ := by
        refine compLoop2_1 (fun n s' => ∃ done1 acc1 rest1 H' ns1, l1 = done1 ++ rest1 ∧ rest1.length = n ∧ acc1.length = acc.length + done1.length ∧ J1 done1 acc1 H' ∧ Inv c ((C, .ns ns1) :: (it1, .itr rest1) :: (it, .itr rest) :: (D, .lst acc1) :: H') s' ∧
            Step (dom H₁) s.heap (C :: it1 :: it :: D :: dom H') s'.heap) ?_ l1.length
          ⟨[], acc, l1, H₃, old', rfl, rfl, rfl, j10, q3.1, Sy⟩
        rintro n s' ⟨done1, acc1, rest1, H', ns1, hl1, rfl, hlen1, hJ1, I', S'⟩
        cases rest1 with
        | nil =>
          rw [List.append_nil] at hl1
          subst hl1
          have r1 := I'.perm (perm_c (a := (C, .ns ns1)))
          refine iter_end r1.1 hh fun s₉ I₉ S₉ => ?_
          exact ⟨rest.length, Nat.lt_succ_self _, done ++ [item], acc1, rest, H', ns1, by rw [hl]; simp, rfl, fin1 _ _ hJ1, I₉, (S'.trans r1.2).trans S₉⟩
        | cons item1 rest1 =>
          have r1 := I'.perm (perm_c (a := (C, .ns ns1)))
          refine iter_next r1.1 fun s₉ v I₉ S₉ hvv => ?_
          have r2 := I₉.perm perm_c
          have Sz := ((S'.trans r1.2).trans S₉).trans r2.2
          refine wpAny_assign_Name ?_
          have st := st_local (c := c) (A := A.mark none) (env := compEnvC scope cl C env) (x := x1) (d := item1) (pre := []) (post := (it1, .itr rest1) :: (it, .itr rest) :: (D, .lst acc1) :: H') (l := ns1)
            (Kn := fun H'' => H'' = (C, .ns ((x1, item1) :: ns1)) :: (it1, .itr rest1) :: (it, .itr rest) :: (D, .lst acc1) :: H') hx1 hkind rfl
          refine st s₉ [v] _ _ r2.1 (.one (V.step r2.2 _ _ hvv)) fun s₁₀ H₁₀ I₁₀ S₁₀ e => ?_
          subst e
          refine turn1 it1 ns1 done1 item1 rest1 acc1 H' hl1 hJ1 s₁₀ _ _ I₁₀ fun s₁₁ u d' H₁₁ I₁₁ S₁₁ hu hk => ?_
          obtain ⟨H₆, old2, rfl, hJ'⟩ := hk
          have la : acc1.length ≤ 10000 := by
            rw [hlen1]
            have := congrArg List.length hl1
            rw [List.length_append] at this
            omega
          refine append_led (pre := [(C, .ns old2), (it1, .itr rest1), (it, .itr rest)]) I₁₁ hu la fun s₁₂ I₁₂ S₁₂ => ?_
          exact ⟨rest1.length, Nat.lt_succ_self _, done1 ++ [item1], acc1 ++ [d'], rest1, H₆, old2, by rw [hl1]; simp, rfl, by simp [hlen1]; omega, hJ', I₁₂, ((Sz.trans S₁₀).trans S₁₁).trans S₁₂⟩
      refine wpAny_runOwn (compStart2_1 ?_ (iter_again (q3.1.ok (it1, .itr l1) (.tail _ (.head _))) ?_))
      · exact codeAny_mono loop1 fun r s' hr => by cases r <;> exact hr
      · exact codeAny_mono loop1 fun r s' hr => by cases r <;> exact hr
  have hit := I₃.ok (it, .itr l) (.tail _ (.head _))
  exact codeAny_compStart_list loop (iter_again hit loop)

theorem e_comp2 {elt i0 i1 : Expr} {x0 x1 : Str} {p0 p1 : Pos} {scope : Scope} {pos : Pos} {cl : List (Str × Addr)} {H : HL} {K : AV → HL → Prop} (hh : A.handled = none) (hclos : closureFor scope env = pure cl) (hcell : ∀ y ∈ scope.names, y.2 ≠ .cell) (hkind : scope.kind = .function)
    (hnames : ∀ y ∈ scope.names, y.2 = .local → scope.names.lookup y.1 = some .local) (hx0 : (relabel scope env).names.lookup x0 = some .local) (hx1 : (relabel scope env).names.lookup x1 = some .local)
    (h : AE c A env i0 H fun d H₁ => ∃ l, itemsOf d = some l ∧ smallR d = true ∧ ∃ J : List AV → List AV → HL → Prop, J [] [] H₁ ∧ Turn2 c A env scope cl elt i1 x0 x1 l J ∧ (∀ acc H', J l acc H' → K (.lst acc) H'))
    (hs : ∀ x, foldedSetIterable i0 env x = pure x := by intro _; with_unfolding_all rfl) (hs1 : ∀ env x, foldedSetIterable i1 env x = pure x := by intro _ _; with_unfolding_all rfl) : AE c A env (comp2 elt (.Name x0 p0) i0 (.Name x1 p1) i1 scope pos) H K := by
  intro s E Q I P
  show wpAny _ _ (eval (comp2 elt (.Name x0 p0) i0 (.Name x1 p1) i1 scope pos) env) _ _ _
  rw [eval_ListComp]
  refine wpAny_comprehension_free rfl hs hclos hkind hnames (h s E _ I fun s₁ xv d H₁ I₁ S₁ hv k => ?_)
  obtain ⟨l, hi, hsm, J, i0, turn, fin⟩ := k
  refine comp2_core hh hcell hkind hx0 hx1 I₁ hv hi hsm i0 turn (fun s' D C m0 acc H' hJ I' S' hv' => ?_) hs1
  obtain ⟨m, hn, _⟩ := I'.ok _ (.head _)
  refine ⟨m, hn, fun h' hs' => ?_⟩
  have f := I'.forget (h' := h') (t := s'.toks) fun b o hb e => (hs'.2 b hb).trans e
  exact P _ _ _ _ f.1 ((S₁.trans S').trans f.2) (V.step f.2 _ _ hv') (fin acc H' hJ)
theorem s_comp2 {elt i0 i1 : Expr} {x0 x1 y : Str} {p0 p1 py : Pos} {scope : Scope} {pos spos : Pos} {cl : List (Str × Addr)} {H : HL} {Kn : HL → Prop} {Kr : AV → HL → Prop} (hh : A.handled = none) (hclos : closureFor scope env = pure cl) (hcell : ∀ y ∈ scope.names, y.2 ≠ .cell) (hkind : scope.kind = .function)
    (hnames : ∀ y ∈ scope.names, y.2 = .local → scope.names.lookup y.1 = some .local) (hx0 : (relabel scope env).names.lookup x0 = some .local) (hx1 : (relabel scope env).names.lookup x1 = some .local)
    (h : AE c A env i0 H fun d H₁ => ∃ l, itemsOf d = some l ∧ smallR d = true ∧ ∃ J : List AV → List AV → HL → Prop, J [] [] H₁ ∧ Turn2 c A env scope cl elt i1 x0 x1 l J ∧
      (∀ acc H' C m0, J l acc H' → ST c A env y (.lst acc) ((C, .ns m0) :: H') (fun H'' => ∃ H₃, H'' = (C, .ns m0) :: H₃ ∧ Kn H₃)))
    (hu : swapsWith (comp2 elt (.Name x0 p0) i0 (.Name x1 p1) i1 scope pos) (some (.Name y py)) spos.line env = pure true)
    (hs : ∀ x, foldedSetIterable i0 env x = pure x := by intro _; with_unfolding_all rfl) (hs1 : ∀ env x, foldedSetIterable i1 env x = pure x := by intro _ _; with_unfolding_all rfl) : AS c A env (.Assign [.Name y py] (comp2 elt (.Name x0 p0) i0 (.Name x1 p1) i1 scope pos) spos) H Kn Kr := by
  intro s E Q I P _
  show wpAny _ _ (exec (.Assign [.Name y py] (comp2 elt (.Name x0 p0) i0 (.Name x1 p1) i1 scope pos) spos) env) _ _ _
  rw [exec_Assign_Name_used _ _ _ _ hu]
  refine wpAny_bind (wpAny_standAt (wpAny_bind ?_))
  show wpAny _ _ (comprehension (comp2 elt (.Name x0 p0) i0 (.Name x1 p1) i1 scope pos) scope env (firstIterPos [⟨.Name x0 p0, i0, [], 0⟩, ⟨.Name x1 p1, i1, [], 0⟩] pos) (newList []) (firstAsync [⟨.Name x0 p0, i0, [], 0⟩, ⟨.Name x1 p1, i1, [], 0⟩])
    (firstIter [⟨.Name x0 p0, i0, [], 0⟩, ⟨.Name x1 p1, i1, [], 0⟩] env) (some (assign (.Name y py) env)) >>= fun _ => pure ()) _ _ _
  refine wpAny_bind (wpAny_comprehension_free rfl hs hclos hkind hnames (h s E _ I fun s₁ xv d H₁ I₁ S₁ hv k => ?_))
  obtain ⟨l, hi, hsm, J, i0, turn, fin⟩ := k
  refine comp2_core hh hcell hkind hx0 hx1 I₁ hv hi hsm i0 turn (fun s' D C m0 acc H' hJ I' S' hv' => ?_) hs1
  show wpAny _ _ (assign (.Name y py) env (.ref D)) _ _ _
  refine wpAny_assign_Name (fin acc H' C m0 hJ s' [.ref D] _ _ I' (.one hv') fun s₂ H₂ I₂ S₂ k₂ => ?_)
  obtain ⟨H₃, rfl, k₃⟩ := k₂
  obtain ⟨m, hn, _⟩ := I₂.ok _ (.head _)
  refine ⟨m, hn, fun h' hs' => ?_⟩
  have f := I₂.forget (h' := h') (t := s₂.toks) fun b o hb e => (hs'.2 b hb).trans e
  exact wpAny_pure (wpAny_pure (P _ _ f.1 (((S₁.trans S').trans S₂).trans f.2) k₃))
end
end Mine
end
section
open PySem PySem.W PySem.Calls PyProof.Rows
set_option Elab.async false
namespace Mine
section
variable {c : Cx} {A : Around} {env : Env}

/-- an assignment's target with a value in hand -/
noncomputable abbrev AA (c : Cx) (A : Around) (env : Env) (t : Expr) (d : AV) (H : HL) (K : HL → Prop) : Prop := TUs c A (fun vs => match vs with | [v] => assign t env v | _ => unsupported "none") [d] H K
theorem aa_name {x : Str} {p : Pos} {d : AV} {H : HL} {K : HL → Prop} (h : ST c A env x d H K) : AA c A env (.Name x p) d H K := by
  rintro s vs E Q I ⟨v, _, rfl, hv, rfl⟩ P
  exact wpAny_assign_Name (h s [v] E Q I (.one hv) P)
theorem ae_two {a b : Str} {p q : Pos} : assignEach [.Name a p, .Name b q] env = [(false, assign (.Name a p) env), (false, assign (.Name b q) env)] := rfl
theorem ae_tuple {elts : List Expr} {k : Nat} {pos : Pos} {v : Value} : assign (.Tuple elts k pos) env v = (do standAt pos; unpack v (assignEach elts env)) := rfl
noncomputable abbrev St2K (c : Cx) (A : Around) (env : Env) (b : Str) (d2 : AV) (Kn : HL → Prop) : HL → Prop := fun H₂ => ST c A env b d2 H₂ Kn
theorem aa_two {a b : Str} {p q : Pos} {k : Nat} {pos : Pos} {d d1 d2 : AV} {H : HL} {K : HL → Prop} (hh : A.handled = none) (hd : d = .tup [d1, d2] ∨ d = .lst [d1, d2]) (h : ST c A env a d1 H fun H₁ => ST c A env b d2 H₁ K) :
    AA c A env (.Tuple [.Name a p, .Name b q] k pos) d H K := by
  rintro s vs E Q I ⟨v, _, rfl, hv, rfl⟩ P
  have body : ∀ (v1 v2 : Value) (h' : Heap), V s.heap (dom H) d1 v1 → V s.heap (dom H) d2 v2 → Heap.ExtBut s.heap.objs.size s.heap h' →
      wpAny c.M A (assignInOrder [assign (.Name a p) env, assign (.Name b q) env] [v1, v2]) Q E { s with heap := h' } := by
    intro v1 v2 h' hv1 hv2 he
    have g := I.grow (h' := h') (t := s.toks) fun b o e => he b o (Nat.ne_of_lt (Heap.lt_size e)) e
    unfold assignInOrder
    refine wpAny_bind (wpAny_holding (wpAny_assign_Name (h _ [v1] _ _ g.1 (.one (V.step g.2 _ _ hv1)) fun s₂ H₂ I₂ S₂ k₂ => ?_)))
    unfold assignInOrder
    refine wpAny_bind (wpAny_holding (wpAny_assign_Name (k₂ s₂ [v2] _ _ I₂ (.one (V.step (g.2.trans S₂) _ _ hv2)) fun s₃ H₃ I₃ S₃ k₃ => ?_)))
    unfold assignInOrder
    exact wpAny_pure (P s₃ H₃ I₃ ((g.2.trans S₂).trans S₃) k₃)
  show wpAny _ _ (assign (.Tuple [.Name a p, .Name b q] k pos) env v) _ _ _
  rw [ae_tuple, ae_two]
  refine wpAny_bind (wpAny_standAt ?_)
  unfold unpack
  show wpAny _ _ (holding [v] (unpackItems v 2 none) >>= fun x => assignInOrder [assign (.Name a p) env, assign (.Name b q) env] x) _ _ _
  rcases hd with rfl | rfl
  · obtain ⟨x, us, n, rfl, _, e, v1, _, rfl, hv1, v2, _, rfl, hv2, rfl⟩ := hv
    exact wpAny_bind (wpAny_holding (wpAny_unpackItems_tuple (items := #[v1, v2]) hh (tupO_isT e) fun h' he => body v1 v2 h' hv1 hv2 he))
  · obtain ⟨x, us, n, rfl, _, e, v1, _, rfl, hv1, v2, _, rfl, hv2, rfl⟩ := hv
    exact wpAny_bind (wpAny_holding (kun_itemsOf (items := #[v1, v2]) hh (lstO_is e) fun h' he => body v1 v2 h' hv1 hv2 he))
noncomputable abbrev PairK (c : Cx) (A : Around) (env : Env) (a b : Str) (Kn : HL → Prop) : AV → HL → Prop := fun d H₁ => ∃ d1 d2, d = .tup [d1, d2] ∧ ST c A env a d1 H₁ (St2K c A env b d2 Kn)
theorem pairK {a b : Str} {d1 d2 : AV} {H : HL} {Kn : HL → Prop} (h : ST c A env a d1 H (St2K c A env b d2 Kn)) : PairK c A env a b Kn (.tup [d1, d2]) H := ⟨d1, d2, rfl, h⟩
/-- a, b = .. : in the order of writing -/
theorem s_pair {a b : Str} {p q : Pos} {k : Nat} {tpos pos : Pos} {e : Expr} {H : HL} {Kn : HL → Prop} {Kr : AV → HL → Prop} (hh : A.handled = none) (h : AE c A env e H (PairK c A env a b Kn))
    (hs : swapsWithSole [.Tuple [.Name a p, .Name b q] k tpos] e pos.line env = pure false := by with_unfolding_all rfl) (hw : swappedStores [.Tuple [.Name a p, .Name b q] k tpos] e env = pure none := by with_unfolding_all rfl) :
    AS c A env (.Assign [.Tuple [.Name a p, .Name b q] k tpos] e pos) H Kn Kr := by
  intro s E Q I P _
  refine Assign_Tuple (h s E _ I fun s₁ v d H₁ I₁ S₁ hv kk => ?_) hs hw
  obtain ⟨d1, d2, rfl, kk⟩ := kk
  exact aa_two hh (.inl rfl) kk s₁ [v] E _ I₁ (.one hv) fun s₂ H₂ I₂ S₂ k₂ => P s₂ H₂ I₂ (S₁.trans S₂) k₂
noncomputable abbrev PaixK (c : Cx) (A : Around) (env : Env) (a b : Str) (Kn : HL → Prop) : AV → HL → Prop := fun d H₁ => ∃ d1 d2, d = .tup [d1, d2] ∧ ST c A env b d2 H₁ (St2K c A env a d1 Kn)
theorem paixK {a b : Str} {d1 d2 : AV} {H : HL} {Kn : HL → Prop} (h : ST c A env b d2 H (St2K c A env a d1 Kn)) : PaixK c A env a b Kn (.tup [d1, d2]) H := ⟨d1, d2, rfl, h⟩
theorem s_pairX {a b : Str} {p q : Pos} {k : Nat} {tpos pos : Pos} {e : Expr} {H : HL} {Kn : HL → Prop} {Kr : AV → HL → Prop} (hh : A.handled = none) (h : AE c A env e H (PaixK c A env a b Kn))
    (hs : swapsWithSole [.Tuple [.Name a p, .Name b q] k tpos] e pos.line env = pure false := by with_unfolding_all rfl) (hw : swappedStores [.Tuple [.Name a p, .Name b q] k tpos] e env = pure (some [a, b]) := by with_unfolding_all rfl) :
    AS c A env (.Assign [.Tuple [.Name a p, .Name b q] k tpos] e pos) H Kn Kr := by
  intro s E Q I P _
  refine Assign_Tuple_swapped (h s E _ I fun s₁ v d H₁ I₁ S₁ hv kk => ?_) hs hw
  obtain ⟨d1, d2, rfl, kk⟩ := kk
  obtain ⟨x, us, n, rfl, _, ee, v1, _, rfl, hv1, v2, _, rfl, hv2, rfl⟩ := hv
  show wpAny _ _ (unpackItems (.ref x) 2 none) _ _ _
  refine wpAny_unpackItems_tuple (items := #[v1, v2]) hh (tupO_isT ee) fun h' he => ?_
  have g := I₁.grow (h' := h') (t := s₁.toks) fun b o e => he b o (Nat.ne_of_lt (Heap.lt_size e)) e
  show wpAny _ _ (assignInOrder [bindName env b, bindName env a] [v2, v1]) _ _ _
  unfold assignInOrder
  refine wpAny_bind (wpAny_holding (wpAny_bindName (kk _ [v2] _ _ g.1 (.one (V.step g.2 _ _ hv2)) fun s₂ H₂ I₂ S₂ k₂ => ?_)))
  unfold assignInOrder
  refine wpAny_bind (wpAny_holding (wpAny_bindName (k₂ s₂ [v1] _ _ I₂ (.one (V.step (g.2.trans S₂) _ _ hv1)) fun s₃ H₃ I₃ S₃ k₃ => ?_)))
  unfold assignInOrder
  exact wpAny_pure (P s₃ H₃ I₃ (((S₁.trans g.2).trans S₂).trans S₃) k₃)

/-- a for; J: what holds between the turns -/
theorem s_for {target iter : Expr} {body : List Stmt} {pos : Pos} {H : HL} {Kn : HL → Prop} {Kr : AV → HL → Prop} (hh : A.handled = none)
    (h : AE c A env iter H fun d H₁ => ∃ l, itemsOf d = some l ∧ smallR d = true ∧ ∃ J : List AV → HL → Prop, J [] H₁ ∧
      (∀ it done item rest H', l = done ++ item :: rest → J done H' → AA c A env target item ((it, .itr rest) :: H') fun H₂ => ASs c A env body H₂ (fun H₃ => ∃ H₄, H₃ = (it, .itr rest) :: H₄ ∧ J (done ++ [item]) H₄) fun _ _ => False) ∧
      (∀ H', J l H' → Kn H'))
    (hs : ∀ x, foldedSetIterable iter env x = pure x := by intro _; with_unfolding_all rfl) (ht : ∀ it v, letOwnedTupleGo target it v = pure () := by intro _ _; with_unfolding_all rfl) : AS c A env (.For target iter body [] pos) H Kn Kr := by
  intro s E Q I P _
  refine wpAny_For (h s E _ I fun s₁ xv d H₁ I₁ S₁ hv k => ?_) hs
  obtain ⟨l, hi, hsm, J, j0, turn, fin⟩ := k
  refine iter_start I₁ hv hi hsm fun s₂ it I₂ S₂ => ?_
  refine codeAny_forLoop (fun n s' => ∃ done rest H', l = done ++ rest ∧ rest.length = n ∧ J done H' ∧ Inv c ((it, .itr rest) :: H') s' ∧ Step (dom H) s.heap (it :: dom H') s'.heap) ?_ l.length ⟨[], l, H₁, rfl, rfl, j0, I₂, S₁.trans S₂⟩ (ht _)
  rintro n s' ⟨done, rest, H', hl, rfl, hJ, I', S'⟩
  cases rest with
  | nil =>
    rw [List.append_nil] at hl
    subst hl
    refine iter_end I' hh fun s₅ I₅ S₅ => ?_
    exact wpAny_execs_nil (P s₅ H' I₅ (S'.trans S₅) (fin H' hJ))
  | cons item rest =>
    refine iter_next I' fun s₅ v I₅ S₅ hvv => ?_
    refine turn it done item rest H' hl hJ s₅ [v] _ _ I₅ (.one hvv) fun s₆ H₆ I₆ S₆ k₆ => ?_
    refine k₆ s₆ _ _ I₆ (fun s₇ H₇ I₇ S₇ k₇ => ?_) fun _ _ _ _ _ _ _ f => f.elim
    obtain ⟨H₄, rfl, hJ'⟩ := k₇
    exact ⟨rest.length, Nat.lt_succ_self _, done ++ [item], rest, H₄, by rw [hl]; simp, rfl, hJ', I₇, ((S'.trans S₅).trans S₆).trans S₇⟩

noncomputable abbrev SsC (d : AV) (od : AV) (Kn : HL → Prop) : AV → HL → Prop := fun id H₃ => ∃ a l k pre post, od = .adr a ∧ id = .int k ∧ H₃ = pre ++ (a, .ils l) :: post ∧ 0 ≤ k ∧ k.toNat < l.length ∧ l.length ≤ 10000 ∧ Kn (pre ++ (a, .ils (l.set k.toNat d)) :: post)
noncomputable abbrev SsB (c : Cx) (A : Around) (env : Env) (i : Expr) (d : AV) (Kn : HL → Prop) : AV → HL → Prop := fun od H₂ => AE c A env i H₂ (SsC d od Kn)
noncomputable abbrev SsA (c : Cx) (A : Around) (env : Env) (o i : Expr) (Kn : HL → Prop) : AV → HL → Prop := fun d H₁ => AE c A env o H₁ (SsB c A env i d Kn)
/-- x[i] = v on a list of the ledger -/
theorem s_setsub {o i : Expr} {p pos : Pos} {e : Expr} {H : HL} {Kn : HL → Prop} {Kr : AV → HL → Prop}
    (h : AE c A env e H (SsA c A env o i Kn))
    (hs : swapsWith e (some (.Subscript o i p)) pos.line env = pure false := by with_unfolding_all rfl) : AS c A env (.Assign [.Subscript o i p] e pos) H Kn Kr := by
  intro s E Q I P _
  refine wpAny_Assign_Subscript (h s E _ I fun s₁ v d H₁ I₁ S₁ hv k₁ => k₁ s₁ E _ I₁ fun s₂ ov od H₂ I₂ S₂ ho k₂ => k₂ s₂ E _ I₂ fun s₃ iv id H₃ I₃ S₃ hi k₃ => ?_) hs
  obtain ⟨a, l, k, pre, post, rfl, rfl, rfl, h0, hlt, hz, kn⟩ := k₃
  cases ho
  obtain ⟨t, rfl⟩ := hi
  obtain ⟨vs, el, hl⟩ := I₃.ok (a, .ils l) (List.mem_append_right _ (.head _))
  have hv3 := V.step (S₂.trans S₃) _ _ hv
  have lv : vs.length = l.length := hl.length
  refine wpAny_setItem_list el h0 (by omega) (by rw [List.size_toArray, lv]; omega) fun h' hl' hsb => ?_
  have S : Step (dom (pre ++ (a, .ils l) :: post)) s₃.heap (dom (pre ++ (a, .ils l) :: post)) h' :=
    ⟨fun b o hb e => (hsb.2 b fun q => hb (by rw [q]; simp [dom])).trans e, fun _ m => .inl m⟩
  have hset : ∀ {ds : List AV} {us : List Value} (j : Nat), VL h' (dom (pre ++ (a, MO.ils l) :: post)) ds us → VL h' (dom (pre ++ (a, MO.ils l) :: post)) (ds.set j d) (us.set j v) := by
    intro ds
    induction ds with
    | nil => intro us j x; cases x; exact rfl
    | cons e ds ih =>
      rintro us j ⟨u, r, rfl, x1, x2⟩
      cases j with
      | zero => exact ⟨v, r, rfl, V.step S _ _ hv3, x2⟩
      | succ j => exact ⟨u, _, rfl, x1, ih j x2⟩
  have e' : vs.toArray.setIfInBounds k.toNat v = (vs.set k.toNat v).toArray := by simp
  have g := I₃.upd (h' := h') (t := s₃.toks) (m' := .ils (l.set k.toNat d)) hsb ⟨vs.set k.toNat v, e' ▸ hl', hset _ (VL.step S _ _ hl)⟩
  exact P _ _ g.1 (((S₁.trans S₂).trans S₃).trans g.2) kn
theorem os_led {value slice : Expr} {a : Addr} {l : List AV} {i : Int} {d : AV} {H : HL} {K : AV → HL → Prop} (hm : (a, MO.ils l) ∈ H) (h0 : 0 ≤ i) (hl : l[i.toNat]? = some d) (hz : l.length ≤ 10000) (k : K d H)
    (hs : ∀ t u, subscripted slice false (.ref t) (.int i u) = operate [.ref t, .int i u] (getItem (.ref t) (.int i u)) := by intros; with_unfolding_all rfl) : OSub c A value slice (.adr a) (.int i) H K := TVs.of2 fun s _ _ _ _ I va vb P => by
  cases va
  obtain ⟨t, rfl⟩ := vb
  obtain ⟨us, e, hu⟩ := I.ok _ hm
  obtain ⟨v, hv, w⟩ := hu.get hl
  have lt : i.toNat < us.length := by
    rcases Nat.lt_or_ge i.toNat us.length with q | q
    · exact q
    · rw [List.getElem?_eq_none q] at hv; cases hv
  rw [hu.length] at lt
  exact tail_any e.typeIs slot_list_getitem.lookup (wpAny_getItem_list e h0 (by omega) (by simpa using hv) (P.here I w k)) (hs _ _)

/-! the list of draws, opened and shut -/
theorem Inv.src_open {pre post : HL} {a : Addr} {s : Shared} (I : Inv c (pre ++ (a, .src) :: post) s) : ∃ x y, 0 ≤ x ∧ x.natAbs.log2 < 2 ^ 21 ∧ 0 ≤ y ∧ y < drawMax ∧ Inv c (pre ++ (a, .ils [.int x, .int y]) :: post) s := by
  obtain ⟨vs, e, x, y, t, u, rfl, h1, h2, h3, h4⟩ := I.ok (a, .src) (List.mem_append_right _ (.head _))
  have g := I.upd (h' := s.heap) (t := s.toks) (m' := .ils [.int x, .int y]) (.refl _ _) ⟨_, e, _, _, rfl, ⟨t, rfl⟩, _, _, rfl, ⟨u, rfl⟩, rfl⟩
  exact ⟨x, y, h1, h2, h3, h4, g.1⟩
theorem Inv.src_shut {pre post : HL} {a : Addr} {x y : Int} {s : Shared} (I : Inv c (pre ++ (a, .ils [.int x, .int y]) :: post) s) (h1 : 0 ≤ x) (h2 : x.natAbs.log2 < 2 ^ 21) (h3 : 0 ≤ y) (h4 : y < drawMax) : Inv c (pre ++ (a, .src) :: post) s := by
  obtain ⟨vs, e, v1, _, rfl, ⟨t, rfl⟩, v2, _, rfl, ⟨u, rfl⟩, rfl⟩ := I.ok (a, .ils [.int x, .int y]) (List.mem_append_right _ (.head _))
  exact (I.upd (h' := s.heap) (t := s.toks) (m' := .src) (.refl _ _) ⟨_, e, x, y, t, u, rfl, h1, h2, h3, h4⟩).1
theorem Inv.lst_src {pre post : HL} {a : Addr} {x y : Int} {s : Shared} (I : Inv c (pre ++ (a, .lst [.int x, .int y]) :: post) s) (h1 : 0 ≤ x) (h2 : x.natAbs.log2 < 2 ^ 21) (h3 : 0 ≤ y) (h4 : y < drawMax) : Inv c (pre ++ (a, .src) :: post) s := by
  obtain ⟨vs, n, e, v1, _, rfl, ⟨t, rfl⟩, v2, _, rfl, ⟨u, rfl⟩, rfl⟩ := I.ok (a, .lst [.int x, .int y]) (List.mem_append_right _ (.head _))
  exact (I.upd (h' := s.heap) (t := s.toks) (m' := .src) (.refl _ _) ⟨_, lstO_is e, x, y, t, u, rfl, h1, h2, h3, h4⟩).1
end
end Mine
end
section
open PySem PySem.W PySem.Calls PyProof.Rows
set_option Elab.async false
namespace Mine
/-- the function object at an address of the written part -/
noncomputable def fdOf (K : Frag) (a : Addr) : FuncData := match K.lookup a with
  | some ⟨_, _, .func fd, _⟩ => fd
  | _ => default
theorem fd_at {K : Frag} {f : Addr} (h : fnIn K f = true) : ∃ o, K.lookup f = some o ∧ o.data = .func (fdOf K f) := by
  unfold fnIn at h
  unfold fdOf
  split at h
  · rename_i e
    rw [e]
    exact ⟨_, rfl, rfl⟩
  · cases h
/-- the environment of a call of it -/
noncomputable def fenv (c : Cx) (f L : Addr) : Env := callEnvC (fdOf c.K f) L f

section
variable {P : List Value → Prop}
theorem len0 (h : P []) : ∀ vs : List Value, vs.length = 0 → P vs
  | [], _ => h
theorem lenS {n : Nat} (h : ∀ a vs, vs.length = n → P (a :: vs)) : ∀ vs : List Value, vs.length = n + 1 → P vs
  | a :: vs, e => h a vs (Nat.succ.inj e)
theorem len1 (h : ∀ a, P [a]) : ∀ vs : List Value, vs.length = 1 → P vs := lenS fun a => len0 (P := fun vs => P (a :: vs)) (h a)
theorem len2 (h : ∀ a b, P [a, b]) : ∀ vs : List Value, vs.length = 2 → P vs := lenS fun a => len1 (P := fun vs => P (a :: vs)) (h a)
theorem len3 (h : ∀ a b d, P [a, b, d]) : ∀ vs : List Value, vs.length = 3 → P vs := lenS fun a => len2 (P := fun vs => P (a :: vs)) (h a)
theorem len6 (h : ∀ a b d e f g, P [a, b, d, e, f, g]) : ∀ vs : List Value, vs.length = 6 → P vs := lenS fun a => lenS fun b => lenS fun d => len3 (P := fun vs => P (a :: b :: d :: vs)) (h a b d)
theorem len9 (h : ∀ a b d e f g i j k, P [a, b, d, e, f, g, i, j, k]) : ∀ vs : List Value, vs.length = 9 → P vs := lenS fun a => lenS fun b => lenS fun d => len6 (P := fun vs => P (a :: b :: d :: vs)) (h a b d)
end
theorem af_fn {c : Cx} {A : Around} {H : HL} {K : AV → HL → Prop} {f : Addr} {body : List Stmt} {ds : List AV} (ns : List Str) (k : Nat) (fr : Addr → HL)
    (R : Room (k + 1) A)
    (hbind : ∀ vs : List Value, vs.length = ds.length → bindArgs (fdOf c.K f) ⟨vs, []⟩ = pure (ns.zip vs))
    (hkind : ∀ n L, n ∈ ns → (fdOf c.K f).scope.names.lookup n = some .local ∨ (fdOf c.K f).scope.names.lookup n = some .cell ∧ ((cellsFrom L (fdOf c.K f).scope.names []).lookup n).isSome = true)
    (hlen : ns.length = ds.length) (hbody : (fdOf c.K f).body = .stmts body) (hfr : ∀ L, frameH (fenv c f L) (ns.zip ds) = fr L)
    (hf : fnIn c.K f = true) (hcd : codeIn c.K (fdOf c.K f).code (fdOf c.K f).qualname = true)
    (hclo : (fdOf c.K f).closure = []) (hnd : ∀ L, ((cellsFrom L (fdOf c.K f).scope.names []).map (·.1)).Nodup)
    (hco : (fdOf c.K f).scope.isCoroutine = false) (hgen : (fdOf c.K f).scope.isGenerator = false) (hk : (fdOf c.K f).scope.kind = .function)
    (h : ∀ L A', Room k A' → ASs c A' (fenv c f L) body (fr L ++ H) (Back K .none) (Back K)) : AF c A f ds H K := by
  obtain ⟨o, ho, hd⟩ := fd_at hf
  refine ac_def ho hd hcd hbody hclo hlen hbind hkind R (fun L R' => ?_) hnd hco hgen hk
  rw [show frameH (callEnvC (fdOf c.K f) L f) (ns.zip ds) = fr L from hfr L]
  exact h L _ R'

theorem ac_fn {c : Cx} {A : Around} {H : HL} {K : AV → HL → Prop} {f : Addr} {body : List Stmt} {ds : List AV} (ns : List Str) (k : Nat) (fr : Addr → HL)
    (R : Room (k + 1) A)
    (hbind : ∀ vs : List Value, vs.length = ds.length → bindArgs (fdOf c.K f) ⟨vs, []⟩ = pure (ns.zip vs))
    (hkind : ∀ n L, n ∈ ns → (fdOf c.K f).scope.names.lookup n = some .local ∨ (fdOf c.K f).scope.names.lookup n = some .cell ∧ ((cellsFrom L (fdOf c.K f).scope.names []).lookup n).isSome = true)
    (hlen : ns.length = ds.length) (hbody : (fdOf c.K f).body = .stmts body) (hfr : ∀ L, frameH (fenv c f L) (ns.zip ds) = fr L)
    (hf : fnIn c.K f = true) (hcd : codeIn c.K (fdOf c.K f).code (fdOf c.K f).qualname = true)
    (hclo : (fdOf c.K f).closure = []) (hnd : ∀ L, ((cellsFrom L (fdOf c.K f).scope.names []).map (·.1)).Nodup)
    (hco : (fdOf c.K f).scope.isCoroutine = false) (hgen : (fdOf c.K f).scope.isGenerator = false) (hk : (fdOf c.K f).scope.kind = .function)
    (h : ∀ L A', Room k A' → ASs c A' (fenv c f L) body (fr L ++ H) (Back K .none) (Back K)) : AC c A (.adr f) ds H K :=
  (af_fn ns k fr R hbind hkind hlen hbody hfr hf hcd hclo hnd hco hgen hk h).ac

section
variable {c : Cx} {A : Around} {env : Env} {H : HL}
theorem e_fn {K : AV → HL → Prop} {x : Str} {pos : Pos} {a : Addr} (hk : env.scope.kind = .function) (hx : env.kindOf x = some .globalImplicit) (hg : env.globals = mainGlobals)
    (e : nsIn c.K mainGlobals x = some (some (.ref a))) (k : K (.adr a) H) (hd : (x == ("__debug__" : Str)) = false := by decide) : AE c A env (.Name x pos) H K := e_global (d := .adr a) hk hx hg e (fun _ _ => rfl) k hd

theorem e_type {K : AV → HL → Prop} {x : Str} {pos : Pos} {n : String} (hv : bootBuiltins x = some (.type n)) (e : nsIn c.K mainGlobals x = some none) (hk : env.scope.kind = .function) (hx : env.kindOf x = some .globalImplicit) (hg : env.globals = mainGlobals) (hb : env.builtins = builtinsNs)
    (hn : x ≠ "__name__") (k : K (.typ n) H) (hd : (x == ("__debug__" : Str)) = false := by decide) : AE c A env (.Name x pos) H K := e_builtin (d := .typ n) hk hx hg hb e hv hn (fun _ _ => rfl) k hd
theorem e_bfun {K : AV → HL → Prop} {x : Str} {pos : Pos} {n : String} (hv : bootBuiltins x = some (.builtin n)) (e : nsIn c.K mainGlobals x = some none) (hk : env.scope.kind = .function) (hx : env.kindOf x = some .globalImplicit) (hg : env.globals = mainGlobals) (hb : env.builtins = builtinsNs)
    (hn : x ≠ "__name__") (k : K (.blt n) H) (hd : (x == ("__debug__" : Str)) = false := by decide) : AE c A env (.Name x pos) H K := e_builtin (d := .blt n) hk hx hg hb e hv hn (fun _ _ => rfl) k hd
theorem TS.src_open {t : Sem Flow} {pre post : HL} {sa : Addr} {Kn : HL → Prop} {Kr : AV → HL → Prop}
    (h : ∀ x y, 0 ≤ x → x.natAbs.log2 < 2 ^ 21 → 0 ≤ y → y < drawMax → TS c A t (pre ++ (sa, .ils [.int x, .int y]) :: post) Kn Kr) : TS c A t (pre ++ (sa, .src) :: post) Kn Kr := by
  intro s E Q I P R
  obtain ⟨x, y, h1, h2, h3, h4, I'⟩ := I.src_open
  have hd : dom (pre ++ (sa, .ils [.int x, .int y]) :: post) = dom (pre ++ (sa, .src) :: post) := by simp [dom]
  exact h x y h1 h2 h3 h4 s E Q I' (fun s' H' I S k => P s' H' I (hd ▸ S) k) fun s' v d H' I S hv k => R s' v d H' I (hd ▸ S) hv k
theorem AC.src_shut {f : AV} {ds : List AV} {sa : Addr} {K : AV → HL → Prop}
    (h : AC c A f ds H fun d H' => ∃ pre post x y, H' = pre ++ (sa, .ils [.int x, .int y]) :: post ∧ 0 ≤ x ∧ x.natAbs.log2 < 2 ^ 21 ∧ 0 ≤ y ∧ y < drawMax ∧ K d (pre ++ (sa, .src) :: post)) : AC c A f ds H K := by
  intro s vs E Q I hv P
  refine h s vs E Q I hv fun s' v d H' I' S' hv' k => ?_
  obtain ⟨pre, post, x, y, rfl, h1, h2, h3, h4, k⟩ := k
  have hd : dom (pre ++ (sa, .ils [.int x, .int y]) :: post) = dom (pre ++ (sa, .src) :: post) := by simp [dom]
  exact P s' v d _ (I'.src_shut h1 h2 h3 h4) (hd ▸ S') (hd ▸ hv') k
noncomputable abbrev NnK (Kn : HL → Prop) : AV → HL → Prop := fun d H' => d = .none ∧ Kn H'
theorem s_expr {e : Expr} {pos : Pos} {Kn : HL → Prop} {Kr : AV → HL → Prop} (h : AE c A env e H (NnK Kn)) (hi : interactive env = false) (hs : swapsWith e none pos.line env = pure false := by with_unfolding_all rfl) :
    AS c A env (.Expr e pos) H Kn Kr := by
  intro s E Q I P _
  refine wpAny_Expr (h s E _ I fun s' v d H' I' S' hv k => ?_) hi hs
  obtain ⟨rfl, k⟩ := k
  cases hv
  exact P s' H' I' S' k
end
set_option maxRecDepth 100000
theorem b_int : bootBuiltins (Str.ofString "int") = some (.type "int") := by kernel_rfl
theorem nb_int (P : Params) : nsIn (Mine.hd.heap_1 P) mainGlobals (Str.ofString "int") = some none := by kernel_rfl
theorem b_tuple : bootBuiltins (Str.ofString "tuple") = some (.type "tuple") := by kernel_rfl
theorem nb_tuple (P : Params) : nsIn (Mine.hd.heap_1 P) mainGlobals (Str.ofString "tuple") = some none := by kernel_rfl
theorem b_list : bootBuiltins (Str.ofString "list") = some (.type "list") := by kernel_rfl
theorem nb_list (P : Params) : nsIn (Mine.hd.heap_1 P) mainGlobals (Str.ofString "list") = some none := by kernel_rfl
theorem b_range : bootBuiltins (Str.ofString "range") = some (.type "range") := by kernel_rfl
theorem nb_range (P : Params) : nsIn (Mine.hd.heap_1 P) mainGlobals (Str.ofString "range") = some none := by kernel_rfl
theorem b_dict : bootBuiltins (Str.ofString "dict") = some (.type "dict") := by kernel_rfl
theorem nb_dict (P : Params) : nsIn (Mine.hd.heap_1 P) mainGlobals (Str.ofString "dict") = some none := by kernel_rfl
theorem b_str : bootBuiltins (Str.ofString "str") = some (.type "str") := by kernel_rfl
theorem nb_str (P : Params) : nsIn (Mine.hd.heap_1 P) mainGlobals (Str.ofString "str") = some none := by kernel_rfl
theorem b_len : bootBuiltins (Str.ofString "len") = some (.builtin "len") := by kernel_rfl
theorem nb_len (P : Params) : nsIn (Mine.hd.heap_1 P) mainGlobals (Str.ofString "len") = some none := by kernel_rfl
theorem b_max : bootBuiltins (Str.ofString "max") = some (.builtin "max") := by kernel_rfl
theorem nb_max (P : Params) : nsIn (Mine.hd.heap_1 P) mainGlobals (Str.ofString "max") = some none := by kernel_rfl
theorem b_isinstance : bootBuiltins (Str.ofString "isinstance") = some (.builtin "isinstance") := by kernel_rfl
theorem nb_isinstance (P : Params) : nsIn (Mine.hd.heap_1 P) mainGlobals (Str.ofString "isinstance") = some none := by kernel_rfl
theorem b_repr : bootBuiltins (Str.ofString "repr") = some (.builtin "repr") := by kernel_rfl
theorem nb_repr (P : Params) : nsIn (Mine.hd.heap_1 P) mainGlobals (Str.ofString "repr") = some none := by kernel_rfl
theorem b_sorted : bootBuiltins (Str.ofString "sorted") = some (.builtin "sorted") := by kernel_rfl
theorem nb_sorted (P : Params) : nsIn (Mine.hd.heap_1 P) mainGlobals (Str.ofString "sorted") = some none := by kernel_rfl
theorem g_Body (P : Params) : nsIn (Mine.hd.heap_1 P) mainGlobals (Str.ofString "Body") = some (some (.ref 82)) := by kernel_rfl
theorem g_parts_of (P : Params) : nsIn (Mine.hd.heap_1 P) mainGlobals (Str.ofString "parts_of") = some (some (.ref 93)) := by kernel_rfl
theorem g_rebuilt (P : Params) : nsIn (Mine.hd.heap_1 P) mainGlobals (Str.ofString "rebuilt") = some (some (.ref 100)) := by kernel_rfl
theorem g_with_regions (P : Params) : nsIn (Mine.hd.heap_1 P) mainGlobals (Str.ofString "with_regions") = some (some (.ref 105)) := by kernel_rfl
theorem g_Numbers (P : Params) : nsIn (Mine.hd.heap_1 P) mainGlobals (Str.ofString "Numbers") = some (some (.ref 155)) := by kernel_rfl
theorem g_operand_with (P : Params) : nsIn (Mine.hd.heap_1 P) mainGlobals (Str.ofString "operand_with") = some (some (.ref 166)) := by kernel_rfl
theorem g_operands_with (P : Params) : nsIn (Mine.hd.heap_1 P) mainGlobals (Str.ofString "operands_with") = some (some (.ref 171)) := by kernel_rfl
theorem g_rvalue_with (P : Params) : nsIn (Mine.hd.heap_1 P) mainGlobals (Str.ofString "rvalue_with") = some (some (.ref 178)) := by kernel_rfl
theorem g_statement_with (P : Params) : nsIn (Mine.hd.heap_1 P) mainGlobals (Str.ofString "statement_with") = some (some (.ref 185)) := by kernel_rfl
theorem g_callee_with (P : Params) : nsIn (Mine.hd.heap_1 P) mainGlobals (Str.ofString "callee_with") = some (some (.ref 192)) := by kernel_rfl
theorem g_terminator_with (P : Params) : nsIn (Mine.hd.heap_1 P) mainGlobals (Str.ofString "terminator_with") = some (some (.ref 199)) := by kernel_rfl
theorem g_local_types (P : Params) : nsIn (Mine.hd.heap_1 P) mainGlobals (Str.ofString "local_types") = some (some (.ref 204)) := by kernel_rfl
theorem g_renumbered (P : Params) : nsIn (Mine.hd.heap_1 P) mainGlobals (Str.ofString "renumbered") = some (some (.ref 209)) := by kernel_rfl
theorem g_Sig (P : Params) : nsIn (Mine.hd.heap_1 P) mainGlobals (Str.ofString "Sig") = some (some (.ref 226)) := by kernel_rfl
theorem g_World (P : Params) : nsIn (Mine.hd.heap_1 P) mainGlobals (Str.ofString "World") = some (some (.ref 255)) := by kernel_rfl
theorem g_law_pool (P : Params) : nsIn (Mine.hd.heap_1 P) mainGlobals (Str.ofString "_law_pool") = some (some (.ref 266)) := by kernel_rfl
theorem g_law_take (P : Params) : nsIn (Mine.hd.heap_1 P) mainGlobals (Str.ofString "_law_take") = some (some (.ref 273)) := by kernel_rfl
theorem g_law_one (P : Params) : nsIn (Mine.hd.heap_1 P) mainGlobals (Str.ofString "_law_one") = some (some (.ref 280)) := by kernel_rfl
theorem g_law_type (P : Params) : nsIn (Mine.hd.heap_1 P) mainGlobals (Str.ofString "_law_type") = some (some (.ref 287)) := by kernel_rfl
theorem g_law_bare (P : Params) : nsIn (Mine.hd.heap_1 P) mainGlobals (Str.ofString "_law_bare") = some (some (.ref 292)) := by kernel_rfl
theorem g_law_regions (P : Params) : nsIn (Mine.hd.heap_1 P) mainGlobals (Str.ofString "_law_regions") = some (some (.ref 297)) := by kernel_rfl
theorem g_law_operand (P : Params) : nsIn (Mine.hd.heap_1 P) mainGlobals (Str.ofString "_law_operand") = some (some (.ref 304)) := by kernel_rfl
theorem g_law_statement (P : Params) : nsIn (Mine.hd.heap_1 P) mainGlobals (Str.ofString "_law_statement") = some (some (.ref 311)) := by kernel_rfl
theorem g_law_end (P : Params) : nsIn (Mine.hd.heap_1 P) mainGlobals (Str.ofString "_law_end") = some (some (.ref 318)) := by kernel_rfl
theorem g_law_sig (P : Params) : nsIn (Mine.hd.heap_1 P) mainGlobals (Str.ofString "_law_sig") = some (some (.ref 323)) := by kernel_rfl
theorem g_law_fixed_right (P : Params) : nsIn (Mine.hd.heap_1 P) mainGlobals (Str.ofString "_law_fixed_right") = some (some (.ref 330)) := by kernel_rfl
theorem g_law (P : Params) : nsIn (Mine.hd.heap_1 P) mainGlobals (Str.ofString "law") = some (some (.ref 335)) := by kernel_rfl
end Mine
end
section
open PySem PyProof.Rows
set_option Elab.async false
namespace Mine

noncomputable abbrev SS := StateT SortSt Sem
noncomputable def gallop' : Bool → Keyed → Array Keyed → Nat → Nat → Nat → SS (Option Nat) := sortPriv% PySem.Builtin.gallop
noncomputable def setMinGallop' : Nat → SS Unit := sortPriv% PySem.Builtin.setMinGallop
noncomputable def mergeLo' : Array Keyed → Array Keyed → SS (Array Keyed) := sortPriv% PySem.Builtin.mergeLo
noncomputable def mergeHi' : Array Keyed → Array Keyed → SS (Array Keyed) := sortPriv% PySem.Builtin.mergeHi
noncomputable def beyond' (left : Bool) (key : Keyed) (arr : Array Keyed) (base i : Nat) : SS (Option Bool) := do
  let x ← elem' arr (base + i)
  if left then lt' x key else return (← lt' key x).map (!·)
noncomputable abbrev GSt := Option (Option Nat) × Nat × Nat
section
variable (left : Bool) (key : Keyed) (arr : Array Keyed) (base : Nat)
noncomputable def gUp (n hint la of : Nat) : SS (ForInStep GSt) :=
  if of ≥ n - hint then pure (.done (none, la, of)) else do
    let x ← beyond' left key arr base (hint + of)
    match x with
    | some more => if (!more) = true then pure (.done (none, la, of)) else pure (.yield (none, of, 2 * of + 1))
    | _ => pure (.done (some none, la, of))
noncomputable def gDn (hint la of : Nat) : SS (ForInStep GSt) :=
  if of ≥ hint + 1 then pure (.done (none, la, of)) else do
    let x ← beyond' left key arr base (hint - of)
    match x with
    | some found => if found = true then pure (.done (none, la, of)) else pure (.yield (none, of, 2 * of + 1))
    | _ => pure (.done (some none, la, of))
noncomputable def gMid (l r : Nat) : SS (ForInStep GSt) :=
  if l ≥ r then pure (.done (none, l, r)) else do
    let x ← beyond' left key arr base (l + (r - l) / 2)
    match x with
    | some more => if more = true then pure (.yield (none, l + (r - l) / 2 + 1, r)) else pure (.yield (none, l, l + (r - l) / 2))
    | _ => pure (.done (some none, l, r))
noncomputable def gBin (n lo hi : Nat) : SS (Option Nat) := do
  let r ← forIn [0:n] ((none, lo, hi) : GSt) fun _ c => gMid left key arr base c.2.1 c.2.2
  match r.1 with
  | some a => pure a
  | none => pure (some r.2.2)
end
theorem gallop'_eq (left : Bool) (key : Keyed) (arr : Array Keyed) (base n hint : Nat) : gallop' left key arr base n hint = (do
  let x ← beyond' left key arr base hint
  match x with
  | some right =>
    if right = true then do
      let r ← forIn [0:n] ((none, 0, 1) : GSt) fun _ c => gUp left key arr base n hint c.2.1 c.2.2
      match r.1 with
      | some a => pure a
      | none => gBin left key arr base n (hint + r.2.1 + 1) (hint + min r.2.2 (n - hint))
    else do
      let r ← forIn [0:n] ((none, 0, 1) : GSt) fun _ c => gDn left key arr base hint c.2.1 c.2.2
      match r.1 with
      | some a => pure a
      | none => gBin left key arr base n (hint + 1 - min r.2.2 (hint + 1)) (hint - r.2.1)
  | _ => pure none) := by kernel_rfl

/-- what a turn of a loop leaves: done, or on -/
noncomputable def Fr {β : Type} (Q I : β → SortSt → Prop) : ForInStep β → SortSt → Prop
  | .done c, st => Q c st
  | .yield c, st => I c st
section
variable {prog : Program} {w : World} {A : Around} {E : Value → Shared → Prop} {s : Shared}
theorem wpS_for {β : Type} {b : Nat} {f : Nat → β → SS (ForInStep β)} {a : Nat} (I : Nat → β → SortSt → Prop) (Q : β → SortSt → Prop) {c : β} {st : SortSt} (h : I a c st) (hend : ∀ c st, I (max a b) c st → Q c st)
    (hstep : ∀ i c st, a ≤ i → i < b → I i c st → wpS (model prog w) A E s (f i c) (Fr Q (I (i + 1))) st) : wpS (model prog w) A E s (forIn [a:b] c f) Q st :=
  wpS_forRange I (fun i c st h1 h2 h3 => wpS_mono (hstep i c st h1 h2 h3) fun r _ h => by cases r <;> exact h) hend h
theorem wpS_done {β : Type} {Q I : β → SortSt → Prop} {c : β} {st : SortSt} (h : Q c st) : wpS (model prog w) A E s (pure (.done c)) (Fr Q I) st := wpS_pure h
theorem wpS_yield {β : Type} {Q I : β → SortSt → Prop} {c : β} {st : SortSt} (h : I c st) : wpS (model prog w) A E s (pure (.yield c)) (Fr Q I) st := wpS_pure h
theorem wpS_ite {α : Type} {c : Prop} [Decidable c] {t e : SS α} {Q : α → SortSt → Prop} {st : SortSt} (h1 : c → wpS (model prog w) A E s t Q st) (h2 : ¬ c → wpS (model prog w) A E s e Q st) :
    wpS (model prog w) A E s (if c then t else e) Q st := by
  by_cases h : c
  · rw [if_pos h]; exact h1 h
  · rw [if_neg h]; exact h2 h
theorem wpS_iteB {α : Type} {x y : Nat} {t e : SS α} {Q : α → SortSt → Prop} {st : SortSt} (h1 : x = y → wpS (model prog w) A E s t Q st) (h2 : ¬ x = y → wpS (model prog w) A E s e Q st) :
    wpS (model prog w) A E s (if (x == y) = true then t else e) Q st := wpS_ite (fun h => h1 (eq_of_beq h)) fun h => h2 fun e => h (beq_iff_eq.mpr e)
noncomputable def IsI (p : Keyed) : Prop := ∃ n t, p.1 = .int n t
noncomputable abbrev nm (p : Keyed) : Int := numOf p.1
theorem wpS_lt {st : SortSt} {p q : Keyed} {Q : Option Bool → SortSt → Prop} (hk : kindOf st = oneType') (hp : IsI p) (hq : IsI q) (h : Q (some (decide (nm p < nm q))) st) :
    wpS (model prog w) A E s (lt' p q) Q st := by
  obtain ⟨a, t, ea⟩ := hp
  obtain ⟨b, u, eb⟩ := hq
  have e1 : nm p = a := congrArg numOf ea
  have e2 : nm q = b := congrArg numOf eb
  rw [e1, e2] at h
  rw [lt'_eq]
  refine wpS_bind (wpS_get ?_)
  rw [hk, keyLt'_oneType, ea, eb]
  refine wpS_bind (wpS_lift (wpAny_attempt (oneLt_int ⟨rfl, ?_⟩)))
  exact wpS_pure h
theorem wpS_ltC {st : SortSt} {p q : Keyed} {Q : Option Bool → SortSt → Prop} (hk : kindOf st = oneType') (hp : IsI p) (hq : IsI q) (h1 : nm p < nm q → Q (some true) st) (h2 : nm q ≤ nm p → Q (some false) st) :
    wpS (model prog w) A E s (lt' p q) Q st := by
  refine wpS_lt hk hp hq ?_
  by_cases h : nm p < nm q
  · rw [decide_eq_true h]; exact h1 h
  · rw [decide_eq_false h]; exact h2 (Int.not_lt.mp h)
theorem wpS_elem {st : SortSt} {arr : Array Keyed} {i : Nat} {p : Keyed} {Q : Keyed → SortSt → Prop} (e : arr[i]? = some p) (h : Q p st) : wpS (model prog w) A E s (elem' arr i) Q st := by
  rw [elem'_eq, e]; exact wpS_pure h
theorem wpS_at {st : SortSt} {arr : Array Keyed} {i : Nat} {Q : Keyed → SortSt → Prop} (e : i < arr.size) (h : Q arr[i] st) : wpS (model prog w) A E s (elem' arr i) Q st := wpS_elem (getElem?_pos arr i e) h
theorem isI_at {arr : Array Keyed} (ha : ∀ p ∈ arr.toList, IsI p) {i : Nat} (h : i < arr.size) : IsI arr[i] := ha _ (by simp)
noncomputable def Bd (left : Bool) (key : Keyed) (arr : Array Keyed) (j : Nat) : Prop := if left then K arr j < nm key else K arr j ≤ nm key
theorem wpS_beyond {st : SortSt} {left : Bool} {key : Keyed} {arr : Array Keyed} {base i : Nat} {Q : Option Bool → SortSt → Prop} (hk : kindOf st = oneType') (hp : IsI key) (ha : ∀ p ∈ arr.toList, IsI p)
    (hi : base + i < arr.size) (h1 : Bd left key arr (base + i) → Q (some true) st) (h2 : ¬ Bd left key arr (base + i) → Q (some false) st) : wpS (model prog w) A E s (beyond' left key arr base i) Q st := by
  have hx := isI_at ha hi
  unfold Bd at h1 h2
  rw [K_eq hi] at h1 h2
  cases left with
  | true => exact wpS_bind (wpS_at hi (wpS_ltC hk hx hp (fun c => h1 c) fun c => h2 (Int.not_lt.mpr c)))
  | false => exact wpS_bind (wpS_at hi (wpS_bind (wpS_ltC hk hp hx (fun c => wpS_pure (h2 (Int.not_le.mpr c))) fun c => wpS_pure (h1 c))))
theorem mid_lt {l r : Nat} (h : ¬ l ≥ r) : l ≤ l + (r - l) / 2 ∧ l + (r - l) / 2 < r := by
  have q : l < r := Nat.lt_of_not_le h
  have := Nat.add_lt_add_left (Nat.div_lt_self (Nat.sub_pos_of_lt q) (Nat.le_refl 2)) l
  rw [Nat.add_sub_cancel' (Nat.le_of_lt q)] at this
  exact ⟨Nat.le_add_right _ _, this⟩
theorem mid_sz {l r n x : Nat} (h : r - l ≤ n - x) (hl : ¬ l ≥ r) : r - (l + (r - l) / 2 + 1) ≤ n - (x + 1) ∧ l + (r - l) / 2 - l ≤ n - (x + 1) :=
  have m := mid_lt hl
  ⟨Nat.le_trans (Nat.sub_le_sub_left (Nat.succ_le_succ m.1) r) (Nat.sub_le_sub_right h 1), Nat.le_sub_one_of_lt (Nat.lt_of_lt_of_le (Nat.sub_lt_sub_right m.1 m.2) h)⟩
theorem up_in {o n h : Nat} (q : ¬ o ≥ n - h) : h + o < n := Nat.add_lt_of_lt_sub' (Nat.lt_of_not_le q)
theorem up_on {x o : Nat} (h : x + 1 ≤ o) : x + 1 + 1 ≤ 2 * o + 1 ∧ o < 2 * o + 1 :=
  have q : o ≤ 2 * o := Nat.le_mul_of_pos_left o Nat.two_pos
  ⟨Nat.succ_le_succ (Nat.le_trans h q), Nat.lt_succ_of_le q⟩
theorem up_end {n h la o : Nat} (h1 : la < o) (h2 : h + la < n) : h + la + 1 ≤ h + min o (n - h) ∧ h + min o (n - h) ≤ n := by
  have q := Nat.add_le_add_left (Nat.min_le_right o (n - h)) h
  rw [Nat.add_sub_cancel' (Nat.le_of_lt (Nat.lt_of_le_of_lt (Nat.le_add_right h la) h2))] at q
  exact ⟨Nat.add_le_add_left (Nat.le_min.mpr ⟨h1, Nat.lt_sub_of_add_lt (Nat.add_comm h la ▸ h2)⟩) h, q⟩
theorem up_hi {n h o i : Nat} (h1 : h + min o (n - h) ≤ i) (h2 : i < n) : h + o ≤ i := by
  rcases Nat.le_total o (n - h) with q | q
  · rw [Nat.min_eq_left q] at h1; exact h1
  · rw [Nat.min_eq_right q] at h1
    exact absurd (Nat.le_trans (Nat.sub_le_iff_le_add'.mp (Nat.le_refl (n - h))) h1) (Nat.not_le_of_lt h2)
theorem dn_end {n h la o : Nat} (h1 : la < o) (h2 : la ≤ h) (h3 : h < n) : h + 1 - min o (h + 1) ≤ h - la ∧ h - la ≤ n :=
  ⟨Nat.le_trans (Nat.sub_le_sub_left (Nat.le_min.mpr ⟨h1, Nat.succ_le_succ h2⟩) (h + 1)) (Nat.le_of_eq (Nat.succ_sub_succ h la)), Nat.le_trans (Nat.sub_le _ _) (Nat.le_of_lt h3)⟩
theorem dn_lo {h o i : Nat} (h1 : i < h + 1 - min o (h + 1)) : o ≤ h ∧ i ≤ h - o := by
  rcases Nat.lt_or_ge h o with q | q
  · rw [Nat.min_eq_right q, Nat.sub_self] at h1; cases h1
  · rw [Nat.min_eq_left (Nat.le_succ_of_le q), Nat.succ_sub q] at h1; exact ⟨q, Nat.le_of_lt_succ h1⟩
theorem up_no {n h o : Nat} (z : max 0 n + 1 ≤ o) (q : h + o < n) : False := by
  rw [Nat.zero_max] at z
  exact Nat.lt_irrefl n (Nat.lt_of_lt_of_le z (Nat.le_of_lt (Nat.lt_of_le_of_lt (Nat.le_add_left o h) q)))
theorem dn_no {n h o : Nat} (z : max 0 n + 1 ≤ o) (hh : h < n) (q : o ≤ h) : False := by
  rw [Nat.zero_max] at z
  exact Nat.lt_irrefl n (Nat.lt_of_lt_of_le z (Nat.le_trans q (Nat.le_of_lt hh)))
theorem bin_no {n l r : Nat} (z : r - l ≤ n - max 0 n) : r ≤ l := by
  rw [Nat.zero_max, Nat.sub_self] at z
  exact Nat.le_of_sub_eq_zero (Nat.eq_zero_of_le_zero z)
theorem add_in {b i n z : Nat} (h : i < n) (hn : b + n ≤ z) : b + i < z := Nat.lt_of_lt_of_le (Nat.add_lt_add_left h b) hn
section
variable {left : Bool} {key : Keyed} {arr : Array Keyed} {base n : Nat}
noncomputable def BMono (left : Bool) (key : Keyed) (arr : Array Keyed) (base n : Nat) : Prop := ∀ i j, i ≤ j → j < n → Bd left key arr (base + j) → Bd left key arr (base + i)
structure GI (left : Bool) (key : Keyed) (arr : Array Keyed) (base n l r : Nat) : Prop where
  lr : l ≤ r
  rn : r ≤ n
  lo : ∀ i, i < l → Bd left key arr (base + i)
  hi : ∀ i, r ≤ i → i < n → ¬ Bd left key arr (base + i)
structure GA (st : SortSt) (key : Keyed) (arr : Array Keyed) (base n : Nat) : Prop where
  kind : kindOf st = oneType'
  key : IsI key
  all : ∀ p ∈ arr.toList, IsI p
  size : base + n ≤ arr.size
noncomputable abbrev gQ (st : SortSt) (P : Nat → Nat → Prop) : GSt → SortSt → Prop := fun c st' => st' = st ∧ c.1 = none ∧ P c.2.1 c.2.2
theorem wpS_gMid {st : SortSt} {l r x : Nat} (a : GA st key arr base n) (hB : BMono left key arr base n) (G : GI left key arr base n l r) (sz : r - l ≤ n - x) :
    wpS (model prog w) A E s (gMid left key arr base l r) (Fr (gQ st fun l r => l = r ∧ GI left key arr base n l r) (gQ st fun l r => r - l ≤ n - (x + 1) ∧ GI left key arr base n l r)) st := by
  refine wpS_ite (fun h => wpS_done ⟨rfl, rfl, Nat.le_antisymm G.lr h, G⟩) fun h => ?_
  have m := mid_lt h
  have z := mid_sz sz h
  have mn := Nat.lt_of_lt_of_le m.2 G.rn
  exact wpS_bind (wpS_beyond a.kind a.key a.all (add_in mn a.size) (fun hb => wpS_yield ⟨rfl, rfl, z.1, m.2, G.rn, fun i hi => hB i _ (Nat.le_of_lt_succ hi) mn hb, G.hi⟩)
    fun hb => wpS_yield ⟨rfl, rfl, z.2, m.1, Nat.le_of_lt mn, G.lo, fun i hi hin c => hb (hB _ i hi hin c)⟩)
theorem wpS_gBin {st : SortSt} {l r : Nat} {Q : Option Nat → SortSt → Prop} (a : GA st key arr base n) (hB : BMono left key arr base n) (G : GI left key arr base n l r)
    (h : ∀ k, k ≤ n → (∀ i, i < k → Bd left key arr (base + i)) → (∀ i, k ≤ i → i < n → ¬ Bd left key arr (base + i)) → Q (some k) st) :
    wpS (model prog w) A E s (gBin left key arr base n l r) Q st := by
  refine wpS_bind (wpS_mono (wpS_for (fun x => gQ st fun l r => r - l ≤ n - x ∧ GI left key arr base n l r) (gQ st fun l r => l = r ∧ GI left key arr base n l r) ⟨rfl, rfl, ?_, G⟩ ?_ ?_) ?_)
  · exact Nat.le_trans (Nat.sub_le _ _) G.rn
  · rintro ⟨_, l, r⟩ st' ⟨rfl, rfl, z, G⟩
    exact ⟨rfl, rfl, Nat.le_antisymm G.lr (bin_no z), G⟩
  · rintro x ⟨_, l, r⟩ st' _ hx ⟨rfl, rfl, z, G⟩
    exact wpS_gMid a hB G z
  · rintro ⟨_, l, r⟩ st' ⟨rfl, rfl, e, G⟩
    cases e
    exact wpS_pure (h _ G.rn G.lo G.hi)
structure UI (left : Bool) (key : Keyed) (arr : Array Keyed) (base n hint la : Nat) (o : Nat) : Prop where
  lo : la < o
  ln : hint + la < n
  b : Bd left key arr (base + (hint + la))
theorem wpS_gUp {st : SortSt} {hint la o x : Nat} (a : GA st key arr base n) (U : UI left key arr base n hint la o) (hx : x + 1 ≤ o) :
    wpS (model prog w) A E s (gUp left key arr base n hint la o) (Fr (gQ st fun la o => UI left key arr base n hint la o ∧ (hint + o < n → ¬ Bd left key arr (base + (hint + o)))) (gQ st fun la o => x + 1 + 1 ≤ o ∧ UI left key arr base n hint la o)) st := by
  refine wpS_ite (fun h => wpS_done ⟨rfl, rfl, U, fun q => absurd (Nat.add_comm _ _ ▸ q) (Nat.not_lt_of_le (Nat.sub_le_iff_le_add.mp h))⟩) fun h => ?_
  exact wpS_bind (wpS_beyond a.kind a.key a.all (add_in (up_in h) a.size) (fun hb => wpS_yield ⟨rfl, rfl, (up_on hx).1, (up_on hx).2, up_in h, hb⟩) fun hb => wpS_done ⟨rfl, rfl, U, fun _ => hb⟩)
structure DI (left : Bool) (key : Keyed) (arr : Array Keyed) (base hint la : Nat) (o : Nat) : Prop where
  lo : la < o
  ln : la ≤ hint
  b : ¬ Bd left key arr (base + (hint - la))
theorem wpS_gDn {st : SortSt} {hint la o x : Nat} (a : GA st key arr base n) (hh : hint < n) (U : DI left key arr base hint la o) (hx : x + 1 ≤ o) :
    wpS (model prog w) A E s (gDn left key arr base hint la o) (Fr (gQ st fun la o => DI left key arr base hint la o ∧ (o ≤ hint → Bd left key arr (base + (hint - o)))) (gQ st fun la o => x + 1 + 1 ≤ o ∧ DI left key arr base hint la o)) st := by
  refine wpS_ite (fun h => wpS_done ⟨rfl, rfl, U, fun q => absurd q (Nat.not_le_of_lt h)⟩) fun h => ?_
  exact wpS_bind (wpS_beyond a.kind a.key a.all (add_in (Nat.lt_of_le_of_lt (Nat.sub_le _ _) hh) a.size) (fun hb => wpS_done ⟨rfl, rfl, U, fun _ => hb⟩)
    fun hb => wpS_yield ⟨rfl, rfl, (up_on hx).1, (up_on hx).2, Nat.le_of_lt_succ (Nat.lt_of_not_le h), hb⟩)
theorem bmono (hs : ∀ i j, base ≤ i → i ≤ j → j < base + n → K arr i ≤ K arr j) : BMono left key arr base n := fun i j hij hj hb => by
  have := hs (base + i) (base + j) (Nat.le_add_right _ _) (Nat.add_le_add_left hij _) (Nat.add_lt_add_left hj _)
  unfold Bd at hb ⊢
  cases left
  · exact Int.le_trans this hb
  · exact Int.lt_of_le_of_lt this hb
theorem wpS_gallop {st : SortSt} {hint : Nat} {Q : Option Nat → SortSt → Prop} (hk : kindOf st = oneType') (hp : IsI key) (ha : ∀ p ∈ arr.toList, IsI p)
    (hh : hint < n) (hn : base + n ≤ arr.size) (hs : ∀ i j, base ≤ i → i ≤ j → j < base + n → K arr i ≤ K arr j)
    (h : ∀ k, k ≤ n → (∀ i, i < k → Bd left key arr (base + i)) → (∀ i, k ≤ i → i < n → ¬ Bd left key arr (base + i)) → Q (some k) st) :
    wpS (model prog w) A E s (gallop' left key arr base n hint) Q st := by
  have a : GA st key arr base n := ⟨hk, hp, ha, hn⟩
  have hB : BMono left key arr base n := bmono hs
  rw [gallop'_eq]
  refine wpS_bind (wpS_beyond hk hp ha (add_in hh hn) (fun hr => ?_) fun hr => ?_)
  · refine wpS_bind (wpS_mono (wpS_for (fun x => gQ st fun la o => x + 1 ≤ o ∧ UI left key arr base n hint la o) (gQ st fun la o => UI left key arr base n hint la o ∧ (hint + o < n → ¬ Bd left key arr (base + (hint + o)))) ⟨rfl, rfl, Nat.le_refl _, Nat.zero_lt_one, hh, hr⟩ ?_ ?_) ?_)
    · rintro ⟨_, la, o⟩ st' ⟨rfl, rfl, z, U⟩
      exact ⟨rfl, rfl, U, fun q => (up_no z q).elim⟩
    · rintro x ⟨_, la, o⟩ st' _ hx ⟨rfl, rfl, z, U⟩
      exact wpS_gUp a U z
    · rintro ⟨_, la, o⟩ st' ⟨rfl, rfl, U, hu⟩
      have e := up_end U.lo U.ln
      exact wpS_gBin a hB ⟨e.1, e.2, fun i hi => hB i _ (Nat.le_of_lt_succ hi) U.ln U.b, fun i hi hin c => hu (Nat.lt_of_le_of_lt (up_hi hi hin) hin) (hB _ i (up_hi hi hin) hin c)⟩ h
  · refine wpS_bind (wpS_mono (wpS_for (fun x => gQ st fun la o => x + 1 ≤ o ∧ DI left key arr base hint la o) (gQ st fun la o => DI left key arr base hint la o ∧ (o ≤ hint → Bd left key arr (base + (hint - o)))) ⟨rfl, rfl, Nat.le_refl _, Nat.zero_lt_one, Nat.zero_le _, hr⟩ ?_ ?_) ?_)
    · rintro ⟨_, la, o⟩ st' ⟨rfl, rfl, z, U⟩
      exact ⟨rfl, rfl, U, fun q => (dn_no z hh q).elim⟩
    · rintro x ⟨_, la, o⟩ st' _ hx ⟨rfl, rfl, z, U⟩
      exact wpS_gDn a hh U z
    · rintro ⟨_, la, o⟩ st' ⟨rfl, rfl, U, hu⟩
      have e := dn_end U.lo U.ln hh
      exact wpS_gBin a hB ⟨e.1, e.2, fun i hi => hB i _ (dn_lo hi).2 (Nat.lt_of_le_of_lt (Nat.sub_le _ _) hh) (hu (dn_lo hi).1), fun i hi hin c => U.b (hB _ i hi hin c)⟩ h
/-- the two uses -/
theorem wpS_galF {st : SortSt} {hint : Nat} {Q : Option Nat → SortSt → Prop} (hk : kindOf st = oneType') (hp : IsI key) (ha : ∀ p ∈ arr.toList, IsI p)
    (hh : hint < n) (hn : base + n ≤ arr.size) (hs : ∀ i j, base ≤ i → i ≤ j → j < base + n → K arr i ≤ K arr j)
    (h : ∀ k, k ≤ n → (∀ j, base ≤ j → j < base + k → K arr j ≤ nm key) → (∀ j, base + k ≤ j → j < base + n → nm key ≤ K arr j) → Q (some k) st) :
    wpS (model prog w) A E s (gallop' false key arr base n hint) Q st :=
  wpS_gallop hk hp ha hh hn hs fun k hk h1 h2 => h k hk (fun j a b => by have := h1 (j - base) (Nat.sub_lt_left_of_lt_add a b); rwa [Nat.add_sub_cancel' a] at this)
    fun j a b => by have := h2 (j - base) (Nat.le_sub_of_add_le' a) (Nat.sub_lt_left_of_lt_add (Nat.le_trans (Nat.le_add_right _ _) a) b); rw [Nat.add_sub_cancel' (Nat.le_trans (Nat.le_add_right _ _) a)] at this; exact Int.le_of_lt (Int.not_le.mp this)
theorem wpS_galT {st : SortSt} {hint : Nat} {Q : Option Nat → SortSt → Prop} (hk : kindOf st = oneType') (hp : IsI key) (ha : ∀ p ∈ arr.toList, IsI p)
    (hh : hint < n) (hn : base + n ≤ arr.size) (hs : ∀ i j, base ≤ i → i ≤ j → j < base + n → K arr i ≤ K arr j)
    (h : ∀ k, k ≤ n → (∀ j, base ≤ j → j < base + k → K arr j ≤ nm key) → (∀ j, base + k ≤ j → j < base + n → nm key ≤ K arr j) → Q (some k) st) :
    wpS (model prog w) A E s (gallop' true key arr base n hint) Q st :=
  wpS_gallop hk hp ha hh hn hs fun k hk h1 h2 => h k hk (fun j a b => by have := h1 (j - base) (Nat.sub_lt_left_of_lt_add a b); rw [Nat.add_sub_cancel' a] at this; exact Int.le_of_lt this)
    fun j a b => by have := h2 (j - base) (Nat.le_sub_of_add_le' a) (Nat.sub_lt_left_of_lt_add (Nat.le_trans (Nat.le_add_right _ _) a) b); rw [Nat.add_sub_cancel' (Nat.le_trans (Nat.le_add_right _ _) a)] at this; exact Int.not_lt.mp this
theorem wpS_gal0 {left : Bool} {st : SortSt} {hint : Nat} {Q : Option Nat → SortSt → Prop} (hk : kindOf st = oneType') (hp : IsI key) (ha : ∀ p ∈ arr.toList, IsI p)
    (hh : hint < n) (hn : n ≤ arr.size) (hs : ∀ i j, i ≤ j → j < n → K arr i ≤ K arr j)
    (h : ∀ k, k ≤ n → (∀ j, j < k → K arr j ≤ nm key) → (∀ j, k ≤ j → j < n → nm key ≤ K arr j) → Q (some k) st) :
    wpS (model prog w) A E s (gallop' left key arr 0 n hint) Q st := by
  rw [← Nat.zero_add n] at hn hs h
  rw [Nat.zero_add n] at h
  cases left
  · exact wpS_galF hk hp ha hh hn (fun i j _ => hs i j) fun k hk h1 h2 => h k hk (fun j hj => h1 j (Nat.zero_le _) (by rw [Nat.zero_add]; exact hj)) fun j a b => h2 j (by rw [Nat.zero_add]; exact a) (by rw [Nat.zero_add]; exact b)
  · exact wpS_galT hk hp ha hh hn (fun i j _ => hs i j) fun k hk h1 h2 => h k hk (fun j hj => h1 j (Nat.zero_le _) (by rw [Nat.zero_add]; exact hj)) fun j a b => h2 j (by rw [Nat.zero_add]; exact a) (by rw [Nat.zero_add]; exact b)
end
end
end Mine
end
section
open PySem PyProof.Rows
set_option Elab.async false
namespace Mine
theorem setMinGallop'_eq (g : Nat) : setMinGallop' g = modify (fun s => SortSt.mk' (kindOf s) (arrOf s) (pendingOf s) g (failedOf s)) := rfl
noncomputable abbrev Srt (l : List Keyed) : Prop := l.Pairwise fun p q => nm p ≤ nm q
/-- only the count of gallops may have turned -/
structure Keeps (st st' : SortSt) : Prop where
  kind : kindOf st' = kindOf st
  arr : arrOf st' = arrOf st
  pend : pendingOf st' = pendingOf st
  fail : failedOf st' = failedOf st
theorem Keeps.refl (st : SortSt) : Keeps st st := ⟨rfl, rfl, rfl, rfl⟩
theorem Keeps.mg {st st' : SortSt} (k : Keeps st st') (g : Nat) : Keeps st (SortSt.mk' (kindOf st') (arrOf st') (pendingOf st') g (failedOf st')) := ⟨k.kind, k.arr, k.pend, k.fail⟩

theorem ext_drop (a : Array Keyed) (i : Nat) : (a.extract i a.size).toList = a.toList.drop i := by
  simp only [Array.toList_extract, List.extract]
  exact List.take_of_length_le (by simp)
theorem drop_cons {a : Array Keyed} {i : Nat} (h : i < a.size) : a.toList.drop i = a[i] :: a.toList.drop (i + 1) := by
  rw [List.drop_eq_getElem_cons (by simpa using h)]; simp
theorem ext_mid (a : Array Keyed) (i k : Nat) : (a.extract i (i + k)).toList ++ a.toList.drop (i + k) = a.toList.drop i := by
  simp only [Array.toList_extract, List.extract, Nat.add_sub_cancel_left]
  rw [show a.toList.drop (i + k) = (a.toList.drop i).drop k by rw [List.drop_drop]]
  exact List.take_append_drop _ _

structure Stat (a b : Array Keyed) : Prop where
  na : ∀ p ∈ a.toList, IsI p
  nb : ∀ p ∈ b.toList, IsI p
  sa : Srt a.toList
  sb : Srt b.toList
  pa : 0 < a.size
  pb : 0 < b.size
  first : ∀ p ∈ a.toList, K b 0 ≤ nm p
  last : ∀ q ∈ b.toList, nm q ≤ K a (a.size - 1)
structure ML (a b out : Array Keyed) (ia ib : Nat) : Prop where
  s1 : Srt (out.toList ++ a.toList.drop ia)
  s2 : Srt (out.toList ++ b.toList.drop ib)
  pm : (out.toList ++ (a.toList.drop ia ++ b.toList.drop ib)).Perm (a.toList ++ b.toList)
noncomputable def Good (a b r : Array Keyed) : Prop := Srt r.toList ∧ r.toList.Perm (a.toList ++ b.toList)
theorem ML.done {a b out : Array Keyed} {ia ib : Nat} (h : ML a b out ia ib) (e : ib = b.size ∨ ia = a.size) : Good a b (out ++ a.extract ia a.size ++ b.extract ib b.size) := by
  unfold Good
  simp only [Array.toList_append, ext_drop, List.append_assoc]
  refine ⟨?_, h.pm⟩
  rcases e with rfl | rfl
  · rw [show b.toList.drop b.size = [] by simp]; simpa using h.s1
  · rw [show a.toList.drop a.size = [] by simp]; simpa using h.s2
theorem K_last {a : Array Keyed} {i : Nat} (e : i + 1 = a.size) : a.toList.drop i = [a[i]'(Nat.lt_of_succ_le (Nat.le_of_eq e))] ∧ K a (a.size - 1) = nm (a[i]'(Nat.lt_of_succ_le (Nat.le_of_eq e))) := by
  have h : i < a.size := Nat.lt_of_succ_le (Nat.le_of_eq e)
  refine ⟨?_, ?_⟩
  · rw [drop_cons h, List.drop_eq_nil_of_le (by rw [Array.length_toList]; exact Nat.le_of_eq e.symm)]
  · have : a.size - 1 = i := by rw [← e, Nat.add_sub_cancel]
    rw [this]; exact K_eq h
theorem ML.lastA {a b out : Array Keyed} {ia ib : Nat} (S : Stat a b) (h : ML a b out ia ib) (e : ia + 1 = a.size) : Good a b (out ++ b.extract ib b.size ++ a.extract ia a.size) := by
  unfold Good
  simp only [Array.toList_append, ext_drop, List.append_assoc]
  obtain ⟨e1, e2⟩ := K_last e
  refine ⟨?_, (List.Perm.append_left _ List.perm_append_comm).trans h.pm⟩
  rw [← List.append_assoc]
  have s1 := h.s1
  rw [e1] at s1 ⊢
  refine List.pairwise_append.mpr ⟨h.s2, List.pairwise_singleton _ _, fun p hp q hq => ?_⟩
  rcases List.mem_append.mp hp with hp | hp
  · exact (List.pairwise_append.mp s1).2.2 p hp q hq
  · obtain rfl := List.mem_singleton.mp hq
    rw [← e2]; exact S.last p (List.drop_subset _ _ hp)
theorem ML.pushB {a b out : Array Keyed} {ia ib : Nat} (h : ML a b out ia ib) (hb : ib < b.size) (hle : ∀ p ∈ a.toList.drop ia, nm b[ib] ≤ nm p) : ML a b (out.push b[ib]) ia (ib + 1) := by
  have e := drop_cons hb
  have s2 := h.s2
  rw [e] at s2
  refine ⟨?_, ?_, ?_⟩
  · simp only [Array.toList_push]
    rw [List.append_assoc]
    refine List.pairwise_append.mpr ⟨(List.pairwise_append.mp h.s1).1, List.pairwise_append.mpr ⟨List.pairwise_singleton _ _, (List.pairwise_append.mp h.s1).2.1, fun p hp q hq => ?_⟩, fun p hp q hq => ?_⟩
    · obtain rfl := List.mem_singleton.mp hp
      exact hle q hq
    · rcases List.mem_append.mp hq with hq | hq
      · obtain rfl := List.mem_singleton.mp hq
        exact (List.pairwise_append.mp s2).2.2 p hp _ (.head _)
      · exact (List.pairwise_append.mp h.s1).2.2 p hp q hq
  · simp only [Array.toList_push, List.append_assoc, List.singleton_append]; exact s2
  · have := h.pm
    rw [e] at this
    simp only [Array.toList_push, List.append_assoc, List.singleton_append]
    exact (List.Perm.append_left _ List.perm_middle.symm).trans this
theorem ML.moveA {a b out : Array Keyed} {ia ib k : Nat} (h : ML a b out ia ib) (hle : ∀ p ∈ (a.extract ia (ia + k)).toList, ∀ q ∈ b.toList.drop ib, nm p ≤ nm q) : ML a b (out ++ a.extract ia (ia + k)) (ia + k) ib := by
  have e := ext_mid a ia k
  have s1 := h.s1
  rw [← e] at s1
  refine ⟨?_, ?_, ?_⟩
  · simp only [Array.toList_append, List.append_assoc]; exact s1
  · simp only [Array.toList_append, List.append_assoc]
    refine List.pairwise_append.mpr ⟨(List.pairwise_append.mp h.s1).1, List.pairwise_append.mpr ⟨(List.pairwise_append.mp (List.pairwise_append.mp s1).2.1).1, (List.pairwise_append.mp h.s2).2.1, hle⟩, fun p hp q hq => ?_⟩
    rcases List.mem_append.mp hq with hq | hq
    · exact (List.pairwise_append.mp s1).2.2 p hp q (List.mem_append_left _ hq)
    · exact (List.pairwise_append.mp h.s2).2.2 p hp q hq
  · have := h.pm
    rw [← e] at this
    simp only [Array.toList_append, List.append_assoc] at this ⊢
    exact this
theorem ML.pushA {a b out : Array Keyed} {ia ib : Nat} (h : ML a b out ia ib) (ha : ia < a.size) (hle : ∀ q ∈ b.toList.drop ib, nm a[ia] ≤ nm q) : ML a b (out.push a[ia]) (ia + 1) ib := by
  have := h.moveA (k := 1) (by
    intro p hp q hq
    have : (a.extract ia (ia + 1)).toList = [a[ia]] := by
      simp only [Array.toList_extract, List.extract, Nat.add_sub_cancel_left]
      rw [drop_cons ha]; rfl
    rw [this] at hp
    obtain rfl := List.mem_singleton.mp hp
    exact hle q hq)
  have e : out ++ a.extract ia (ia + 1) = out.push a[ia] := by
    apply Array.toList_inj.mp
    simp only [Array.toList_append, Array.toList_push, Array.toList_extract, List.extract, Nat.add_sub_cancel_left]
    rw [drop_cons ha]; rfl
  rwa [e] at this
theorem ML.moveB {a b out : Array Keyed} {ia ib k : Nat} (h : ML a b out ia ib) (hle : ∀ p ∈ (b.extract ib (ib + k)).toList, ∀ q ∈ a.toList.drop ia, nm p ≤ nm q) : ML a b (out ++ b.extract ib (ib + k)) ia (ib + k) := by
  have e := ext_mid b ib k
  have s2 := h.s2
  rw [← e] at s2
  refine ⟨?_, ?_, ?_⟩
  · simp only [Array.toList_append, List.append_assoc]
    refine List.pairwise_append.mpr ⟨(List.pairwise_append.mp h.s1).1, List.pairwise_append.mpr ⟨(List.pairwise_append.mp (List.pairwise_append.mp s2).2.1).1, (List.pairwise_append.mp h.s1).2.1, hle⟩, fun p hp q hq => ?_⟩
    rcases List.mem_append.mp hq with hq | hq
    · exact (List.pairwise_append.mp s2).2.2 p hp q (List.mem_append_left _ hq)
    · exact (List.pairwise_append.mp h.s1).2.2 p hp q hq
  · simp only [Array.toList_append, List.append_assoc]; exact s2
  · have := h.pm
    rw [← e] at this
    simp only [Array.toList_append, List.append_assoc] at this ⊢
    refine (List.Perm.append_left _ ?_).trans this
    rw [← List.append_assoc, ← List.append_assoc]
    exact List.Perm.append_right _ List.perm_append_comm
/-- the head is the least of what is left -/
theorem srt_head {a : Array Keyed} (s : Srt a.toList) {i : Nat} (h : i < a.size) : ∀ p ∈ a.toList.drop i, nm a[i] ≤ nm p := by
  intro p hp
  have s' : Srt (a.toList.drop i) := s.drop
  rw [drop_cons h] at s' hp
  rcases List.mem_cons.mp hp with rfl | hp
  · exact Int.le_refl _
  · exact (List.pairwise_cons.mp s').1 p hp
theorem srt_K {a : Array Keyed} (s : Srt a.toList) {i j : Nat} (hij : i ≤ j) (hj : j < a.size) : K a i ≤ K a j := by
  have hi := Nat.lt_of_le_of_lt hij hj
  rw [K_eq hi, K_eq hj]
  by_cases e : i = j
  · subst e; exact Int.le_refl _
  · exact List.pairwise_iff_getElem.mp s i j (by rw [Array.length_toList]; exact hi) (by rw [Array.length_toList]; exact hj) (Nat.lt_of_le_of_ne hij e)
theorem mem_ext {a : Array Keyed} {i k : Nat} {p : Keyed} (h : p ∈ (a.extract i (i + k)).toList) : ∃ j, j < k ∧ ∃ hj : i + j < a.size, p = a[i + j] := by
  obtain ⟨j, hj, rfl⟩ := List.mem_iff_getElem.mp h
  have hj' : j < (a.extract i (i + k)).size := by rw [← Array.length_toList]; exact hj
  have h2 : j < min (i + k) a.size - i := by rw [Array.size_extract] at hj'; exact hj'
  have h3 := Nat.add_lt_of_lt_sub' h2
  refine ⟨j, Nat.lt_of_add_lt_add_left (Nat.lt_of_lt_of_le h3 (Nat.min_le_left _ _)), Nat.lt_of_lt_of_le h3 (Nat.min_le_right _ _), ?_⟩
  simp

/-- where a merge stands, with its measure -/
structure LP (a b out : Array Keyed) (ia ib z : Nat) : Prop where
  m : ML a b out ia ib
  la : ia + 1 < a.size
  lb : ib < b.size
  lz : z ≤ ia + ib
section
variable {a b out : Array Keyed} {ia ib z k : Nat}
theorem LP.ha (P : LP a b out ia ib z) : ia < a.size := Nat.lt_of_succ_lt P.la
theorem LP.less (P : LP a b out ia ib (z + 1)) : LP a b out ia ib z := ⟨P.m, P.la, P.lb, Nat.le_of_succ_le P.lz⟩
theorem LP.pushB (P : LP a b out ia ib z) (hle : ∀ p ∈ a.toList.drop ia, nm (b[ib]'P.lb) ≤ nm p) (e : ¬ ib + 1 = b.size) : LP a b (out.push (b[ib]'P.lb)) ia (ib + 1) (z + 1) :=
  ⟨P.m.pushB P.lb hle, P.la, Nat.lt_of_le_of_ne P.lb e, Nat.succ_le_succ P.lz⟩
theorem LP.pushA (P : LP a b out ia ib z) (hle : ∀ q ∈ b.toList.drop ib, nm (a[ia]'P.ha) ≤ nm q) (e : ¬ ia + 1 + 1 = a.size) : LP a b (out.push (a[ia]'P.ha)) (ia + 1) ib (z + 1) :=
  ⟨P.m.pushA P.ha hle, Nat.lt_of_le_of_ne P.la e, P.lb, by rw [Nat.succ_add]; exact Nat.succ_le_succ P.lz⟩
theorem LP.moveA (P : LP a b out ia ib z) (M : ML a b (out ++ a.extract ia (ia + k)) (ia + k) ib) (h : ia + k < a.size) (e : ¬ ia + k + 1 = a.size) : LP a b (out ++ a.extract ia (ia + k)) (ia + k) ib z :=
  ⟨M, Nat.lt_of_le_of_ne h e, P.lb, Nat.le_trans P.lz (Nat.add_le_add_right (Nat.le_add_right _ _) _)⟩
theorem LP.moveB (P : LP a b out ia ib z) (M : ML a b (out ++ b.extract ib (ib + k)) ia (ib + k)) (h : ib + k < b.size) : LP a b (out ++ b.extract ib (ib + k)) ia (ib + k) z :=
  ⟨M, P.la, h, Nat.le_trans P.lz (Nat.add_le_add_left (Nat.le_add_right _ _) _)⟩
theorem LP.no (P : LP a b out ia ib (z + max 0 (a.size + b.size))) : False := by
  have h := P.lz
  rw [Nat.zero_max] at h
  exact Nat.lt_irrefl _ (Nat.lt_of_lt_of_le (Nat.add_lt_add P.ha P.lb) (Nat.le_trans (Nat.le_add_left _ _) h))
end
noncomputable abbrev LinSt := Option (Array Keyed) × Array Keyed × Nat × Nat × Nat × Nat
noncomputable abbrev LSt := Option (Array Keyed) × Array Keyed × Nat × Nat × Nat × Nat × Nat
noncomputable abbrev OSt := Option (Array Keyed) × Array Keyed × Nat × Nat × Nat
section
variable (a b : Array Keyed)
noncomputable def loL (mg : Nat) (out : Array Keyed) (ia ib ac bc : Nat) : SS (ForInStep LinSt) := do
  let q ← elem' b ib
  let p ← elem' a ia
  let x ← lt' q p
  match x with
  | some bWins =>
    if bWins = true then do
      let q ← elem' b ib
      if (ib + 1 == b.size) = true then pure (.done (some (out.push q ++ a.extract ia ++ b.extract (ib + 1)), out.push q, ia, ib + 1, 0, bc + 1))
      else if bc + 1 ≥ mg then pure (.done (none, out.push q, ia, ib + 1, 0, bc + 1))
      else pure (.yield (none, out.push q, ia, ib + 1, 0, bc + 1))
    else do
      let p ← elem' a ia
      if (ia + 1 + 1 == a.size) = true then pure (.done (some (out.push p ++ b.extract ib ++ a.extract (ia + 1)), out.push p, ia + 1, ib, ac + 1, 0))
      else if ac + 1 ≥ mg then pure (.done (none, out.push p, ia + 1, ib, ac + 1, 0))
      else pure (.yield (none, out.push p, ia + 1, ib, ac + 1, 0))
  | _ => pure (.done (some (out ++ a.extract ia ++ b.extract ib), out, ia, ib, ac, bc))
noncomputable def lo3 (out : Array Keyed) (ia ib mg k k1 : Nat) : SS (ForInStep LSt) := do
  let p ← elem' a ia
  if (ia + 1 + 1 == a.size) = true then pure (.done (some (out.push p ++ b.extract ib ++ a.extract (ia + 1)), out.push p, ia + 1, ib, mg, k, k1))
  else if (decide (k < 7) && decide (k1 < 7)) = true then pure (.done (none, out.push p, ia + 1, ib, mg, k, k1))
  else pure (.yield (none, out.push p, ia + 1, ib, mg, k, k1))
noncomputable def lo2 (out : Array Keyed) (ia ib mg k bc : Nat) : SS (ForInStep LSt) := do
  let p ← elem' b ib
  if (ib + 1 == b.size) = true then pure (.done (some (out.push p ++ a.extract ia ++ b.extract (ib + 1)), out.push p, ia, ib + 1, mg, k, bc))
  else do
    let q ← elem' a ia
    let x ← gallop' true q b (ib + 1) (b.size - (ib + 1)) 0
    match x with
    | some k1 =>
      if k1 > 0 then
        if (ib + 1 + k1 == b.size) = true then pure (.done (some (out.push p ++ b.extract (ib + 1) (ib + 1 + k1) ++ a.extract ia ++ b.extract (ib + 1 + k1)), out.push p ++ b.extract (ib + 1) (ib + 1 + k1), ia, ib + 1 + k1, mg, k, k1))
        else lo3 a b (out.push p ++ b.extract (ib + 1) (ib + 1 + k1)) ia (ib + 1 + k1) mg k k1
      else lo3 a b (out.push p) ia (ib + 1) mg k k1
    | _ => pure (.done (some (out.push p ++ a.extract ia ++ b.extract (ib + 1)), out.push p, ia, ib + 1, mg, k, bc))
noncomputable def lo1 (out : Array Keyed) (ia ib mg ac bc : Nat) : SS (ForInStep LSt) := do
  setMinGallop' mg
  let p ← elem' b ib
  let x ← gallop' false p a ia (a.size - ia) 0
  match x with
  | some k =>
    if k > 0 then
      if (ia + k + 1 == a.size) = true then pure (.done (some (out ++ a.extract ia (ia + k) ++ b.extract ib ++ a.extract (ia + k)), out ++ a.extract ia (ia + k), ia + k, ib, mg, k, bc))
      else if (ia + k == a.size) = true then pure (.done (some (out ++ a.extract ia (ia + k) ++ a.extract (ia + k) ++ b.extract ib), out ++ a.extract ia (ia + k), ia + k, ib, mg, k, bc))
      else lo2 a b (out ++ a.extract ia (ia + k)) (ia + k) ib mg k bc
    else lo2 a b out ia ib mg k bc
  | _ => pure (.done (some (out ++ a.extract ia ++ b.extract ib), out, ia, ib, mg, ac, bc))
noncomputable def lo0 (out : Array Keyed) (ia ib mg ac bc : Nat) : SS (ForInStep LSt) := if mg > 1 then lo1 a b out ia ib (mg - 1) ac bc else lo1 a b out ia ib mg ac bc
noncomputable def loG (c : LSt) : SS (ForInStep OSt) :=
  match c.1 with
  | some r => pure (.done (some r, c.2.1, c.2.2.1, c.2.2.2.1, c.2.2.2.2.1))
  | none => do
    setMinGallop' (c.2.2.2.2.1 + 1)
    pure (.yield (none, c.2.1, c.2.2.1, c.2.2.2.1, c.2.2.2.2.1 + 1))
noncomputable def loM (mg : Nat) (c : LinSt) : SS (ForInStep OSt) :=
  match c.1 with
  | some r => pure (.done (some r, c.2.1, c.2.2.1, c.2.2.2.1, mg))
  | none => do
    liftM (rule "list.sort.gallop")
    let c ← forIn [0:a.size + b.size] ((none, c.2.1, c.2.2.1, c.2.2.2.1, mg + 1, c.2.2.2.2.1, c.2.2.2.2.2) : LSt) fun _ c => lo0 a b c.2.1 c.2.2.1 c.2.2.2.1 c.2.2.2.2.1 c.2.2.2.2.2.1 c.2.2.2.2.2.2
    loG c
noncomputable def loO (out : Array Keyed) (ia ib mg : Nat) : SS (ForInStep OSt) := do
  let c ← forIn [0:a.size + b.size] ((none, out, ia, ib, 0, 0) : LinSt) fun _ c => loL a b mg c.2.1 c.2.2.1 c.2.2.2.1 c.2.2.2.2.1 c.2.2.2.2.2
  loM a b mg c
noncomputable def loE (c : OSt) : SS (Array Keyed) :=
  match c.1 with
  | some r => pure r
  | none => unsupported "internal:list.sort.merge-bound"
noncomputable def loR (out : Array Keyed) (mg : Nat) : SS (Array Keyed) := do
  let c ← forIn [0:a.size + b.size] ((none, out, 0, 1, mg) : OSt) fun _ c => loO a b c.2.1 c.2.2.1 c.2.2.2.1 c.2.2.2.2
  loE c
end
theorem mergeLo'_eq (a b : Array Keyed) : mergeLo' a b = (do
  liftM (rule "list.sort.merge-lo")
  let q ← elem' b 0
  if (1 == b.size) = true then pure (#[q] ++ a.extract 0 ++ b.extract 1)
  else if (0 + 1 == a.size) = true then pure (#[q] ++ b.extract 1 ++ a.extract 0)
  else do
    let s ← get
    loR a b #[q] (gallopOf s)) := by kernel_rfl

section
variable {prog : Program} {w : World} {A : Around} {E : Value → Shared → Prop} {s : Shared} {a b : Array Keyed}
/-- done, or the place -/
noncomputable def Half (a b : Array Keyed) (z : Nat) (o : Option (Array Keyed)) (out : Array Keyed) (ia ib : Nat) : Prop := (∃ r, o = some r ∧ Good a b r) ∨ (o = none ∧ LP a b out ia ib z)
noncomputable abbrev linQ (st : SortSt) (a b : Array Keyed) (z : Nat) : LinSt → SortSt → Prop := fun c st' => st' = st ∧ Half a b z c.1 c.2.1 c.2.2.1 c.2.2.2.1
noncomputable abbrev linI (st : SortSt) (a b : Array Keyed) (z : Nat) : LinSt → SortSt → Prop := fun c st' => st' = st ∧ c.1 = none ∧ LP a b c.2.1 c.2.2.1 c.2.2.2.1 z
noncomputable abbrev loQ (st : SortSt) (a b : Array Keyed) (z : Nat) : LSt → SortSt → Prop := fun c st' => Keeps st st' ∧ Half a b z c.1 c.2.1 c.2.2.1 c.2.2.2.1
noncomputable abbrev loI (st : SortSt) (a b : Array Keyed) (z : Nat) : LSt → SortSt → Prop := fun c st' => Keeps st st' ∧ c.1 = none ∧ LP a b c.2.1 c.2.2.1 c.2.2.2.1 z
noncomputable abbrev outQ (st : SortSt) (a b : Array Keyed) : OSt → SortSt → Prop := fun c st' => Keeps st st' ∧ ∃ r, c.1 = some r ∧ Good a b r
noncomputable abbrev outI (st : SortSt) (a b : Array Keyed) (z : Nat) : OSt → SortSt → Prop := fun c st' => Keeps st st' ∧ c.1 = none ∧ LP a b c.2.1 c.2.2.1 c.2.2.2.1 z
section
variable {st st₁ : SortSt} {out : Array Keyed} {ia ib z : Nat}
theorem wpS_loL {mg ac bc : Nat} (hk : kindOf st = oneType') (S : Stat a b) (P : LP a b out ia ib z) :
    wpS (model prog w) A E s (loL a b mg out ia ib ac bc) (Fr (linQ st a b (z + 1)) (linI st a b (z + 1))) st := by
  refine wpS_bind (wpS_at P.lb (wpS_bind (wpS_at P.ha (wpS_bind (wpS_ltC hk (isI_at S.nb P.lb) (isI_at S.na P.ha) (fun h => ?_) fun h => ?_)))))
  · have hle := fun p hp => Int.le_trans (Int.le_of_lt h) (srt_head S.sa P.ha p hp)
    exact wpS_bind (wpS_at P.lb (wpS_iteB (fun e => wpS_done ⟨rfl, .inl ⟨_, rfl, (P.m.pushB P.lb hle).done (.inl e)⟩⟩)
      fun e => wpS_ite (fun _ => wpS_done ⟨rfl, .inr ⟨rfl, P.pushB hle e⟩⟩) fun _ => wpS_yield ⟨rfl, rfl, P.pushB hle e⟩))
  · have hle := fun p hp => Int.le_trans h (srt_head S.sb P.lb p hp)
    exact wpS_bind (wpS_at P.ha (wpS_iteB (fun e => wpS_done ⟨rfl, .inl ⟨_, rfl, (P.m.pushA P.ha hle).lastA S e⟩⟩)
      fun e => wpS_ite (fun _ => wpS_done ⟨rfl, .inr ⟨rfl, P.pushA hle e⟩⟩) fun _ => wpS_yield ⟨rfl, rfl, P.pushA hle e⟩))
theorem wpS_lo3 {mg k k1 : Nat} (S : Stat a b) (ks : Keeps st st₁) (P : LP a b out ia ib z) (hle : ∀ q ∈ b.toList.drop ib, nm (a[ia]'P.ha) ≤ nm q) :
    wpS (model prog w) A E s (lo3 a b out ia ib mg k k1) (Fr (loQ st a b (z + 1)) (loI st a b (z + 1))) st₁ :=
  wpS_bind (wpS_at P.ha (wpS_iteB (fun e => wpS_done ⟨ks, .inl ⟨_, rfl, (P.m.pushA P.ha hle).lastA S e⟩⟩)
    fun e => wpS_ite (fun _ => wpS_done ⟨ks, .inr ⟨rfl, P.pushA hle e⟩⟩) fun _ => wpS_yield ⟨ks, rfl, P.pushA hle e⟩))
/-- what a gallop tells of the places that it passes, and of those behind -/
theorem pass_le {x : Array Keyed} {i k : Nat} {v : Int} (h : ∀ j, i ≤ j → j < i + k → K x j ≤ v) : ∀ p ∈ (x.extract i (i + k)).toList, nm p ≤ v := fun p hp => by
  obtain ⟨j, hj, hj2, rfl⟩ := mem_ext hp
  have := h (i + j) (Nat.le_add_right _ _) (Nat.add_lt_add_left hj _)
  rwa [K_eq hj2] at this
theorem left_le {x : Array Keyed} (hs : Srt x.toList) {i : Nat} {v : Int} (h : i < x.size) (hv : v ≤ K x i) : ∀ p ∈ x.toList.drop i, v ≤ nm p := fun p hp => by
  rw [K_eq h] at hv
  exact Int.le_trans hv (srt_head hs h p hp)
theorem rest_eq {i n : Nat} (h : i ≤ n) : i + (n - i) = n := Nat.add_sub_cancel' h
theorem wpS_lo2 {mg k bc : Nat} (hk : kindOf st = oneType') (S : Stat a b) (ks : Keeps st st₁) (P : LP a b out ia ib z) (hle : ∀ p ∈ a.toList.drop ia, nm (b[ib]'P.lb) ≤ nm p) :
    wpS (model prog w) A E s (lo2 a b out ia ib mg k bc) (Fr (loQ st a b (z + 1)) (loI st a b (z + 1))) st₁ := by
  refine wpS_bind (wpS_at P.lb (wpS_iteB (fun e => wpS_done ⟨ks, .inl ⟨_, rfl, (P.m.pushB P.lb hle).done (.inl e)⟩⟩) fun e => ?_))
  have P := (P.pushB hle e).less
  have hn := rest_eq (Nat.le_of_lt P.lb)
  refine wpS_bind (wpS_at P.ha (wpS_bind (wpS_galT (ks.kind.trans hk) (isI_at S.na P.ha) S.nb (Nat.sub_pos_of_lt P.lb) (Nat.le_of_eq hn) (fun i j _ hij hj => srt_K S.sb hij (hn ▸ hj)) fun k1 hk1 hlo hhi => ?_)))
  rw [hn] at hhi
  refine wpS_ite (fun _ => ?_) fun h0 => ?_
  · have M := P.m.moveB (k := k1) fun p hp q hq => Int.le_trans (pass_le hlo p hp) (srt_head S.sa P.ha q hq)
    refine wpS_iteB (fun e => wpS_done ⟨ks, .inl ⟨_, rfl, M.done (.inl e)⟩⟩) fun e => ?_
    have hb := Nat.lt_of_le_of_ne (hn ▸ Nat.add_le_add_left hk1 _) e
    exact wpS_lo3 S ks (P.moveB M hb) (left_le S.sb hb (hhi _ (Nat.le_refl _) hb))
  · cases Nat.eq_zero_of_not_pos h0
    exact wpS_lo3 S ks P (left_le S.sb P.lb (hhi _ (Nat.le_refl _) P.lb))
theorem wpS_lo1 {mg ac bc : Nat} (hk : kindOf st = oneType') (S : Stat a b) (ks : Keeps st st₁) (P : LP a b out ia ib z) :
    wpS (model prog w) A E s (lo1 a b out ia ib mg ac bc) (Fr (loQ st a b (z + 1)) (loI st a b (z + 1))) st₁ := by
  have hn := rest_eq (Nat.le_of_lt P.ha)
  have ks := ks.mg mg
  refine wpS_bind (wpS_modify (wpS_bind (wpS_at P.lb (wpS_bind (wpS_galF (ks.kind.trans hk) (isI_at S.nb P.lb) S.na (Nat.sub_pos_of_lt P.ha) (Nat.le_of_eq hn) (fun i j _ hij hj => srt_K S.sa hij (hn ▸ hj)) fun k hk1 hlo hhi => ?_)))))
  rw [hn] at hhi
  refine wpS_ite (fun _ => ?_) fun h0 => ?_
  · have M := P.m.moveA (k := k) fun p hp q hq => Int.le_trans (pass_le hlo p hp) (srt_head S.sb P.lb q hq)
    refine wpS_iteB (fun e => wpS_done ⟨ks, .inl ⟨_, rfl, M.lastA S e⟩⟩) fun e => wpS_iteB (fun e => wpS_done ⟨ks, .inl ⟨_, rfl, M.done (.inr e)⟩⟩) fun e' => ?_
    have ha := Nat.lt_of_le_of_ne (hn ▸ Nat.add_le_add_left hk1 _) e'
    exact wpS_lo2 hk S ks (P.moveA M ha e) (left_le S.sa ha (hhi _ (Nat.le_refl _) ha))
  · cases Nat.eq_zero_of_not_pos h0
    exact wpS_lo2 hk S ks P (left_le S.sa P.ha (hhi _ (Nat.le_refl _) P.ha))
theorem wpS_lo0 {mg ac bc : Nat} (hk : kindOf st = oneType') (S : Stat a b) (ks : Keeps st st₁) (P : LP a b out ia ib z) :
    wpS (model prog w) A E s (lo0 a b out ia ib mg ac bc) (Fr (loQ st a b (z + 1)) (loI st a b (z + 1))) st₁ :=
  wpS_ite (fun _ => wpS_lo1 hk S ks P) fun _ => wpS_lo1 hk S ks P
theorem Half.here {o : Option (Array Keyed)} (h : Half a b z o out ia ib) : (∃ r, o = some r ∧ Good a b r) ∨ (o = none ∧ LP a b out ia ib z) := h
theorem wpS_loG {c : LSt} (ks : Keeps st st₁) (h : Half a b z c.1 c.2.1 c.2.2.1 c.2.2.2.1) : wpS (model prog w) A E s (loG c) (Fr (outQ st a b) (outI st a b z)) st₁ := by
  obtain ⟨o, _⟩ := c
  rcases h with ⟨r, e, g⟩ | ⟨e, P⟩ <;> cases e
  · exact wpS_done ⟨ks, r, rfl, g⟩
  · exact wpS_bind (wpS_modify (wpS_yield ⟨ks.mg _, rfl, P⟩))
theorem wpS_loM {mg : Nat} {c : LinSt} (hk : kindOf st = oneType') (S : Stat a b) (ks : Keeps st st₁) (h : Half a b z c.1 c.2.1 c.2.2.1 c.2.2.2.1) : wpS (model prog w) A E s (loM a b mg c) (Fr (outQ st a b) (outI st a b z)) st₁ := by
  obtain ⟨o, _⟩ := c
  rcases h with ⟨r, e, g⟩ | ⟨e, P⟩ <;> cases e
  · exact wpS_done ⟨ks, r, rfl, g⟩
  · exact wpS_bind (wpS_lift (wpAny_rule ⟨rfl, wpS_bind (wpS_mono (wpS_for (fun y => loI st a b (z + y)) (loQ st a b z) ⟨ks, rfl, P⟩ (fun c st' h => h.2.2.no.elim)
      fun y c st' _ _ h => wpS_mono (wpS_lo0 hk S h.1 h.2.2) fun r st' q => by
        cases r
        · exact ⟨q.1, q.2.imp_right fun q => ⟨q.1, q.2.m, q.2.la, q.2.lb, Nat.le_trans (Nat.le_add_right z (y + 1)) q.2.lz⟩⟩
        · exact q) fun c st' h => wpS_loG h.1 h.2)⟩))
theorem wpS_loO {mg : Nat} (hk : kindOf st = oneType') (S : Stat a b) (ks : Keeps st st₁) (P : LP a b out ia ib z) : wpS (model prog w) A E s (loO a b out ia ib mg) (Fr (outQ st a b) (outI st a b (z + 1))) st₁ :=
  wpS_bind (wpS_mono (wpS_for (fun y => linI st₁ a b (z + y)) (linQ st₁ a b (z + 1)) ⟨rfl, rfl, P⟩ (fun c st' h => h.2.2.no.elim)
    fun y c st' _ _ h => by
      cases h.1
      exact wpS_mono (wpS_loL (ks.kind.trans hk) S h.2.2) fun r st' q => by
        cases r
        · exact ⟨q.1, q.2.imp_right fun q => ⟨q.1, q.2.m, q.2.la, q.2.lb, Nat.le_trans (Nat.succ_le_succ (Nat.le_add_right _ _)) q.2.lz⟩⟩
        · exact q) fun c st' h => by
      cases h.1
      exact wpS_loM hk S ks h.2)
end
theorem wpS_loR {st : SortSt} {out : Array Keyed} {mg : Nat} {Q : Array Keyed → SortSt → Prop} (hk : kindOf st = oneType') (S : Stat a b) (P : LP a b out 0 1 0)
    (h : ∀ r st', Keeps st st' → Good a b r → Q r st') : wpS (model prog w) A E s (loR a b out mg) Q st :=
  wpS_bind (wpS_mono (wpS_for (fun x => outI st a b (0 + x)) (outQ st a b) ⟨.refl _, rfl, P⟩ (fun c st' h => h.2.2.no.elim)
    fun x c st' _ _ h => wpS_loO hk S h.1 h.2.2) fun c st' q => by
      obtain ⟨o, _⟩ := c
      obtain ⟨r, e, g⟩ := q.2
      cases e
      exact wpS_pure (h r st' q.1 g))
theorem wpS_mergeLo {st : SortSt} {Q : Array Keyed → SortSt → Prop} (hk : kindOf st = oneType') (S : Stat a b)
    (h : ∀ r st', Keeps st st' → Good a b r → Q r st') : wpS (model prog w) A E s (mergeLo' a b) Q st := by
  have start : ML a b #[b[0]'S.pb] 0 1 := by
    have := ML.pushB (a := a) (b := b) (out := #[]) (ia := 0) (ib := 0) ⟨by simpa using S.sa, by simpa using S.sb, by simp⟩ S.pb (fun p hp => by
      have := S.first p (by simpa using hp)
      rw [K_eq S.pb] at this; exact this)
    simpa using this
  rw [mergeLo'_eq]
  exact wpS_bind (wpS_lift (wpAny_rule ⟨rfl, wpS_bind (wpS_at S.pb (wpS_iteB (fun e => wpS_pure (h _ _ (.refl _) (start.done (.inl e))))
    fun e1 => wpS_iteB (fun e => wpS_pure (h _ _ (.refl _) (start.lastA S e))) fun e2 =>
      wpS_bind (wpS_get (wpS_loR hk S ⟨start, Nat.lt_of_le_of_ne S.pa e2, Nat.lt_of_le_of_ne S.pb e1, Nat.zero_le _⟩ h))))⟩))
end
end Mine
end
section
open PySem PyProof.Rows
set_option Elab.async false
namespace Mine
theorem ext_take (a : Array Keyed) (i : Nat) : (a.extract 0 i).toList = a.toList.take i := by
  simp only [Array.toList_extract, List.extract, List.drop_zero, Nat.sub_zero]
theorem take_ext (a : Array Keyed) {i n : Nat} (h : i ≤ n) : a.toList.take i ++ (a.extract i n).toList = a.toList.take n := by
  simp only [Array.toList_extract, List.extract]
  conv => rhs; rw [← Nat.add_sub_cancel' h, List.take_add]

structure MH (a b out : Array Keyed) (na nb : Nat) : Prop where
  s1 : Srt (a.toList.take na ++ out.toList.reverse)
  s2 : Srt (b.toList.take nb ++ out.toList.reverse)
  pm : (a.toList.take na ++ (b.toList.take nb ++ out.toList.reverse)).Perm (a.toList ++ b.toList)
theorem MH.done {a b out : Array Keyed} {na nb : Nat} (h : MH a b out na nb) (e : na = 0 ∨ nb = 0) : Good a b (a.extract 0 na ++ b.extract 0 nb ++ out.reverse) := by
  unfold Good
  simp only [Array.toList_append, ext_take, List.append_assoc, Array.toList_reverse]
  refine ⟨?_, h.pm⟩
  rcases e with rfl | rfl
  · simpa using h.s2
  · simpa using h.s1
theorem MH.firstB {a b out : Array Keyed} {na : Nat} (S : Stat a b) (h : MH a b out na 1) : Good a b (b.extract 0 1 ++ a.extract 0 na ++ out.reverse) := by
  unfold Good
  simp only [Array.toList_append, ext_take, List.append_assoc, Array.toList_reverse]
  have hb : b.toList.take 1 = [b[0]'S.pb] := by
    have := take_ext b (i := 0) (n := 1) (Nat.zero_le _)
    rw [← this]
    simp only [Array.toList_extract, List.extract, List.take_zero, List.nil_append, List.drop_zero, Nat.sub_zero]
    have e := drop_cons (a := b) (i := 0) S.pb
    rw [List.drop_zero] at e
    rw [e]; rfl
  refine ⟨?_, ?_⟩
  · have s2 := h.s2
    rw [hb] at s2 ⊢
    refine List.pairwise_append.mpr ⟨List.pairwise_singleton _ _, h.s1, fun p hp q hq => ?_⟩
    rcases List.mem_append.mp hq with hq | hq
    · obtain rfl : p = b[0]'S.pb := by simpa using hp
      have := S.first q (List.take_subset _ _ hq)
      rw [K_eq S.pb] at this
      exact this
    · exact (List.pairwise_append.mp s2).2.2 p hp q hq
  · refine List.Perm.trans ?_ h.pm
    rw [← List.append_assoc, ← List.append_assoc]
    exact List.Perm.append_right _ List.perm_append_comm
theorem MH.firstB' {a b out : Array Keyed} {na nb : Nat} (h : MH a b out na nb) (S : Stat a b) (e : nb = 1) : Good a b (b.extract 0 nb ++ a.extract 0 na ++ out.reverse) := by subst e; exact h.firstB S
theorem MH.moveA {a b out : Array Keyed} {na nb at_ : Nat} (h : MH a b out na nb) (hk : at_ ≤ na) (hle : ∀ p ∈ (a.extract at_ na).toList, ∀ q ∈ b.toList.take nb, nm q ≤ nm p) : MH a b (out ++ (a.extract at_ na).reverse) at_ nb := by
  have e := take_ext a hk
  have s1 := h.s1
  rw [← e] at s1
  refine ⟨?_, ?_, ?_⟩
  · simp only [Array.toList_append, Array.toList_reverse, List.reverse_append, List.reverse_reverse]
    rw [← List.append_assoc]; exact s1
  · simp only [Array.toList_append, Array.toList_reverse, List.reverse_append, List.reverse_reverse]
    refine List.pairwise_append.mpr ⟨(List.pairwise_append.mp h.s2).1, ?_, fun p hp q hq => ?_⟩
    · rw [List.append_assoc] at s1
      exact (List.pairwise_append.mp s1).2.1
    · rcases List.mem_append.mp hq with hq | hq
      · exact hle q hq p hp
      · exact (List.pairwise_append.mp h.s2).2.2 p hp q hq
  · have := h.pm
    rw [← e] at this
    simp only [Array.toList_append, Array.toList_reverse, List.reverse_append, List.reverse_reverse]
    rw [List.append_assoc] at this
    refine (List.Perm.append_left _ ?_).trans this
    rw [← List.append_assoc, ← List.append_assoc]
    exact List.Perm.append_right _ List.perm_append_comm
theorem MH.moveB {a b out : Array Keyed} {na nb at_ : Nat} (h : MH a b out na nb) (hk : at_ ≤ nb) (hle : ∀ p ∈ (b.extract at_ nb).toList, ∀ q ∈ a.toList.take na, nm q ≤ nm p) : MH a b (out ++ (b.extract at_ nb).reverse) na at_ := by
  have e := take_ext b hk
  have s2 := h.s2
  rw [← e] at s2
  refine ⟨?_, ?_, ?_⟩
  · simp only [Array.toList_append, Array.toList_reverse, List.reverse_append, List.reverse_reverse]
    refine List.pairwise_append.mpr ⟨(List.pairwise_append.mp h.s1).1, ?_, fun p hp q hq => ?_⟩
    · rw [List.append_assoc] at s2
      exact (List.pairwise_append.mp s2).2.1
    · rcases List.mem_append.mp hq with hq | hq
      · exact hle q hq p hp
      · exact (List.pairwise_append.mp h.s1).2.2 p hp q hq
  · simp only [Array.toList_append, Array.toList_reverse, List.reverse_append, List.reverse_reverse]
    rw [← List.append_assoc]; exact s2
  · have := h.pm
    rw [← e] at this
    simp only [Array.toList_append, Array.toList_reverse, List.reverse_append, List.reverse_reverse]
    rw [List.append_assoc] at this
    exact this
theorem ext_one {a : Array Keyed} {i : Nat} (h : i < a.size) : a.extract i (i + 1) = #[a[i]] := by
  apply Array.toList_inj.mp
  simp only [Array.toList_extract, List.extract, Nat.add_sub_cancel_left]
  rw [drop_cons h]; rfl
theorem MH.pushA {a b out : Array Keyed} {na nb : Nat} (h : MH a b out (na + 1) nb) (ha : na < a.size) (hle : ∀ q ∈ b.toList.take nb, nm q ≤ nm a[na]) : MH a b (out.push a[na]) na nb := by
  have := h.moveA (at_ := na) (Nat.le_succ _) (by
    rw [ext_one ha]
    intro p hp q hq
    obtain rfl := List.mem_singleton.mp hp
    exact hle q hq)
  rw [ext_one ha] at this
  simpa using this
theorem MH.pushB {a b out : Array Keyed} {na nb : Nat} (h : MH a b out na (nb + 1)) (hb : nb < b.size) (hle : ∀ q ∈ a.toList.take na, nm q ≤ nm b[nb]) : MH a b (out.push b[nb]) na nb := by
  have := h.moveB (at_ := nb) (Nat.le_succ _) (by
    rw [ext_one hb]
    intro p hp q hq
    obtain rfl := List.mem_singleton.mp hp
    exact hle q hq)
  rw [ext_one hb] at this
  simpa using this
/-- what lies before an index is at most what stands there -/
theorem srt_upto {a : Array Keyed} (s : Srt a.toList) {i : Nat} (h : i < a.size) : ∀ p ∈ a.toList.take (i + 1), nm p ≤ nm a[i] := by
  intro p hp
  obtain ⟨j, hj, rfl⟩ := List.mem_iff_getElem.mp hp
  have hj' : j < i + 1 := Nat.lt_of_lt_of_le hj (by rw [List.length_take]; exact Nat.min_le_left _ _)
  have := srt_K s (i := j) (j := i) (Nat.le_of_lt_succ hj') h
  rw [K_eq (Nat.lt_of_lt_of_le hj' h), K_eq h] at this
  simpa using this
theorem mem_ext2 {a : Array Keyed} {i n : Nat} {p : Keyed} (h : p ∈ (a.extract i n).toList) : ∃ j, i ≤ j ∧ j < n ∧ ∃ hj : j < a.size, p = a[j] := by
  obtain ⟨j, hj, rfl⟩ := List.mem_iff_getElem.mp h
  have hj' : j < (a.extract i n).size := by rw [← Array.length_toList]; exact hj
  have h2 : j < min n a.size - i := by rw [Array.size_extract] at hj'; exact hj'
  have h3 := Nat.add_lt_of_lt_sub' h2
  refine ⟨i + j, Nat.le_add_right _ _, Nat.lt_of_lt_of_le h3 (Nat.min_le_left _ _), Nat.lt_of_lt_of_le h3 (Nat.min_le_right _ _), ?_⟩
  simp
theorem mem_take2 {a : Array Keyed} {n : Nat} {p : Keyed} (h : p ∈ a.toList.take n) : ∃ j, j < n ∧ ∃ hj : j < a.size, p = a[j] := by
  rw [← ext_take] at h
  obtain ⟨j, _, h2, h3⟩ := mem_ext2 h
  exact ⟨j, h2, h3⟩


structure HP (a b out : Array Keyed) (na nb z : Nat) : Prop where
  m : MH a b out na nb
  pa : 0 < na
  pb : 1 < nb
  la : na ≤ a.size
  lb : nb ≤ b.size
  lz : na + nb + z ≤ a.size + b.size
section
variable {a b out : Array Keyed} {na nb z k : Nat}
theorem HP.less (P : HP a b out na nb (z + 1)) : HP a b out na nb z := ⟨P.m, P.pa, P.pb, P.la, P.lb, Nat.le_of_succ_le P.lz⟩
theorem HP.pushB (P : HP a b out na (nb + 1) z) (hle : ∀ q ∈ a.toList.take na, nm q ≤ nm (b[nb]'P.lb)) (e : ¬ nb = 1) : HP a b (out.push (b[nb]'P.lb)) na nb (z + 1) :=
  ⟨P.m.pushB P.lb hle, P.pa, Nat.lt_of_le_of_ne (Nat.le_of_lt_succ P.pb) (Ne.symm e), P.la, Nat.le_of_succ_le P.lb, by have := P.lz; rw [← Nat.add_assoc, Nat.succ_add] at this; exact this⟩
theorem HP.pushA (P : HP a b out (na + 1) nb z) (hle : ∀ q ∈ b.toList.take nb, nm q ≤ nm (a[na]'P.la)) (e : ¬ na = 0) : HP a b (out.push (a[na]'P.la)) na nb (z + 1) :=
  ⟨P.m.pushA P.la hle, Nat.pos_of_ne_zero e, P.pb, Nat.le_of_succ_le P.la, P.lb, by have := P.lz; rw [Nat.succ_add, Nat.succ_add] at this; exact this⟩
theorem HP.moveA (P : HP a b out na nb z) (M : MH a b (out ++ (a.extract k na).reverse) k nb) (h : k ≤ na) (e : ¬ k = 0) : HP a b (out ++ (a.extract k na).reverse) k nb z :=
  ⟨M, Nat.pos_of_ne_zero e, P.pb, Nat.le_trans h P.la, P.lb, Nat.le_trans (Nat.add_le_add_right (Nat.add_le_add_right h _) _) P.lz⟩
theorem HP.moveB (P : HP a b out na nb z) (M : MH a b (out ++ (b.extract k nb).reverse) na k) (h : k ≤ nb) (e1 : ¬ k = 1) (e0 : ¬ k = 0) : HP a b (out ++ (b.extract k nb).reverse) na k z :=
  ⟨M, P.pa, Nat.lt_of_le_of_ne (Nat.pos_of_ne_zero e0) (Ne.symm e1), P.la, Nat.le_trans h P.lb, Nat.le_trans (Nat.add_le_add_right (Nat.add_le_add_left h _) _) P.lz⟩
theorem HP.no (P : HP a b out na nb (z + max 0 (a.size + b.size))) : False := by
  have h := P.lz
  rw [Nat.zero_max, ← Nat.add_assoc] at h
  have q := Nat.le_of_add_le_add_right (Nat.le_trans h (Nat.le_of_eq (Nat.zero_add _).symm))
  exact Nat.not_lt_of_le (Nat.le_trans (Nat.le_trans (Nat.le_add_right na nb) (Nat.le_add_right _ z)) q) P.pa
end
noncomputable abbrev HlSt := Option (Array Keyed) × Nat × Nat × Array Keyed × Nat × Nat
noncomputable abbrev HSt := Option (Array Keyed) × Nat × Nat × Array Keyed × Nat × Nat × Nat
noncomputable abbrev HoSt := Option (Array Keyed) × Nat × Nat × Array Keyed × Nat
section
variable (a b : Array Keyed)
noncomputable def hiL (mg na nb : Nat) (out : Array Keyed) (ac bc : Nat) : SS (ForInStep HlSt) := do
  let q ← elem' b (nb - 1)
  let p ← elem' a (na - 1)
  let x ← lt' q p
  match x with
  | some aWins =>
    if aWins = true then do
      let p ← elem' a (na - 1)
      if (na - 1 == 0) = true then pure (.done (some (a.extract 0 (na - 1) ++ b.extract 0 nb ++ (out.push p).reverse), na - 1, nb, out.push p, ac + 1, 0))
      else if ac + 1 ≥ mg then pure (.done (none, na - 1, nb, out.push p, ac + 1, 0))
      else pure (.yield (none, na - 1, nb, out.push p, ac + 1, 0))
    else do
      let q ← elem' b (nb - 1)
      if (nb - 1 == 1) = true then pure (.done (some (b.extract 0 (nb - 1) ++ a.extract 0 na ++ (out.push q).reverse), na, nb - 1, out.push q, 0, bc + 1))
      else if bc + 1 ≥ mg then pure (.done (none, na, nb - 1, out.push q, 0, bc + 1))
      else pure (.yield (none, na, nb - 1, out.push q, 0, bc + 1))
  | _ => pure (.done (some (a.extract 0 na ++ b.extract 0 nb ++ out.reverse), na, nb, out, ac, bc))
noncomputable def hi3 (out : Array Keyed) (na nb mg k k1 : Nat) : SS (ForInStep HSt) := do
  let p ← elem' a (na - 1)
  if (na - 1 == 0) = true then pure (.done (some (a.extract 0 (na - 1) ++ b.extract 0 nb ++ (out.push p).reverse), na - 1, nb, out.push p, mg, k, k1))
  else if (decide (k < 7) && decide (k1 < 7)) = true then pure (.done (none, na - 1, nb, out.push p, mg, k, k1))
  else pure (.yield (none, na - 1, nb, out.push p, mg, k, k1))
noncomputable def hi2 (out : Array Keyed) (na nb mg k bc : Nat) : SS (ForInStep HSt) := do
  let p ← elem' b (nb - 1)
  if (nb - 1 == 1) = true then pure (.done (some (b.extract 0 (nb - 1) ++ a.extract 0 na ++ (out.push p).reverse), na, nb - 1, out.push p, mg, k, bc))
  else do
    let q ← elem' a (na - 1)
    let x ← gallop' true q b 0 (nb - 1) (nb - 1 - 1)
    match x with
    | some at_ =>
      if nb - 1 - at_ > 0 then
        if (at_ == 1) = true then pure (.done (some (b.extract 0 at_ ++ a.extract 0 na ++ (out.push p ++ (b.extract at_ (nb - 1)).reverse).reverse), na, at_, out.push p ++ (b.extract at_ (nb - 1)).reverse, mg, k, nb - 1 - at_))
        else if (at_ == 0) = true then pure (.done (some (a.extract 0 na ++ b.extract 0 at_ ++ (out.push p ++ (b.extract at_ (nb - 1)).reverse).reverse), na, at_, out.push p ++ (b.extract at_ (nb - 1)).reverse, mg, k, nb - 1 - at_))
        else hi3 a b (out.push p ++ (b.extract at_ (nb - 1)).reverse) na at_ mg k (nb - 1 - at_)
      else hi3 a b (out.push p) na (nb - 1) mg k (nb - 1 - at_)
    | _ => pure (.done (some (a.extract 0 na ++ b.extract 0 (nb - 1) ++ (out.push p).reverse), na, nb - 1, out.push p, mg, k, bc))
noncomputable def hi1 (out : Array Keyed) (na nb mg ac bc : Nat) : SS (ForInStep HSt) := do
  setMinGallop' mg
  let p ← elem' b (nb - 1)
  let x ← gallop' false p a 0 na (na - 1)
  match x with
  | some at_ =>
    if na - at_ > 0 then
      if (at_ == 0) = true then pure (.done (some (a.extract 0 at_ ++ b.extract 0 nb ++ (out ++ (a.extract at_ na).reverse).reverse), at_, nb, out ++ (a.extract at_ na).reverse, mg, na - at_, bc))
      else hi2 a b (out ++ (a.extract at_ na).reverse) at_ nb mg (na - at_) bc
    else hi2 a b out na nb mg (na - at_) bc
  | _ => pure (.done (some (a.extract 0 na ++ b.extract 0 nb ++ out.reverse), na, nb, out, mg, ac, bc))
noncomputable def hi0 (out : Array Keyed) (na nb mg ac bc : Nat) : SS (ForInStep HSt) := if mg > 1 then hi1 a b out na nb (mg - 1) ac bc else hi1 a b out na nb mg ac bc
noncomputable def hiG (c : HSt) : SS (ForInStep HoSt) :=
  match c.1 with
  | some r => pure (.done (some r, c.2.1, c.2.2.1, c.2.2.2.1, c.2.2.2.2.1))
  | none => do
    setMinGallop' (c.2.2.2.2.1 + 1)
    pure (.yield (none, c.2.1, c.2.2.1, c.2.2.2.1, c.2.2.2.2.1 + 1))
noncomputable def hiM (mg : Nat) (c : HlSt) : SS (ForInStep HoSt) :=
  match c.1 with
  | some r => pure (.done (some r, c.2.1, c.2.2.1, c.2.2.2.1, mg))
  | none => do
    liftM (rule "list.sort.gallop")
    let c ← forIn [0:a.size + b.size] ((none, c.2.1, c.2.2.1, c.2.2.2.1, mg + 1, c.2.2.2.2.1, c.2.2.2.2.2) : HSt) fun _ c => hi0 a b c.2.2.2.1 c.2.1 c.2.2.1 c.2.2.2.2.1 c.2.2.2.2.2.1 c.2.2.2.2.2.2
    hiG c
noncomputable def hiO (out : Array Keyed) (na nb mg : Nat) : SS (ForInStep HoSt) := do
  let c ← forIn [0:a.size + b.size] ((none, na, nb, out, 0, 0) : HlSt) fun _ c => hiL a b mg c.2.1 c.2.2.1 c.2.2.2.1 c.2.2.2.2.1 c.2.2.2.2.2
  hiM a b mg c
noncomputable def hiE (c : HoSt) : SS (Array Keyed) :=
  match c.1 with
  | some r => pure r
  | none => unsupported "internal:list.sort.merge-bound"
noncomputable def hiR (na nb : Nat) (out : Array Keyed) (mg : Nat) : SS (Array Keyed) := do
  let c ← forIn [0:a.size + b.size] ((none, na, nb, out, mg) : HoSt) fun _ c => hiO a b c.2.2.2.1 c.2.1 c.2.2.1 c.2.2.2.2
  hiE c
end
theorem mergeHi'_eq (a b : Array Keyed) : mergeHi' a b = (do
  liftM (rule "list.sort.merge-hi")
  let p ← elem' a (a.size - 1)
  if (a.size - 1 == 0) = true then pure (a.extract 0 (a.size - 1) ++ b.extract 0 b.size ++ (#[p] : Array Keyed).reverse)
  else if (b.size == 1) = true then pure (b.extract 0 b.size ++ a.extract 0 (a.size - 1) ++ (#[p] : Array Keyed).reverse)
  else do
    let s ← get
    hiR a b (a.size - 1) b.size #[p] (gallopOf s)) := by kernel_rfl

section
variable {prog : Program} {w : World} {A : Around} {E : Value → Shared → Prop} {s : Shared} {a b : Array Keyed}
noncomputable def Halh (a b : Array Keyed) (z : Nat) (o : Option (Array Keyed)) (na nb : Nat) (out : Array Keyed) : Prop := (∃ r, o = some r ∧ Good a b r) ∨ (o = none ∧ HP a b out na nb z)
noncomputable abbrev hlQ (st : SortSt) (a b : Array Keyed) (z : Nat) : HlSt → SortSt → Prop := fun c st' => st' = st ∧ Halh a b z c.1 c.2.1 c.2.2.1 c.2.2.2.1
noncomputable abbrev hlI (st : SortSt) (a b : Array Keyed) (z : Nat) : HlSt → SortSt → Prop := fun c st' => st' = st ∧ c.1 = none ∧ HP a b c.2.2.2.1 c.2.1 c.2.2.1 z
noncomputable abbrev hiQ (st : SortSt) (a b : Array Keyed) (z : Nat) : HSt → SortSt → Prop := fun c st' => Keeps st st' ∧ Halh a b z c.1 c.2.1 c.2.2.1 c.2.2.2.1
noncomputable abbrev hiI (st : SortSt) (a b : Array Keyed) (z : Nat) : HSt → SortSt → Prop := fun c st' => Keeps st st' ∧ c.1 = none ∧ HP a b c.2.2.2.1 c.2.1 c.2.2.1 z
noncomputable abbrev hoQ (st : SortSt) (a b : Array Keyed) : HoSt → SortSt → Prop := fun c st' => Keeps st st' ∧ ∃ r, c.1 = some r ∧ Good a b r
noncomputable abbrev hoI (st : SortSt) (a b : Array Keyed) (z : Nat) : HoSt → SortSt → Prop := fun c st' => Keeps st st' ∧ c.1 = none ∧ HP a b c.2.2.2.1 c.2.1 c.2.2.1 z
section
variable {st st₁ : SortSt} {out : Array Keyed} {na nb z : Nat}
theorem wpS_hiL' {mg ac bc : Nat} (hk : kindOf st = oneType') (S : Stat a b) (P : HP a b out (na + 1) (nb + 1) z) :
    wpS (model prog w) A E s (hiL a b mg (na + 1) (nb + 1) out ac bc) (Fr (hlQ st a b (z + 1)) (hlI st a b (z + 1))) st := by
  refine wpS_bind (wpS_at (i := nb) P.lb (wpS_bind (wpS_at (i := na) P.la (wpS_bind (wpS_ltC hk (isI_at S.nb P.lb) (isI_at S.na P.la) (fun h => ?_) fun h => ?_)))))
  · have hle := fun q hq => Int.le_trans (srt_upto S.sb P.lb q hq) (Int.le_of_lt h)
    exact wpS_bind (wpS_at (i := na) P.la (wpS_iteB (fun e => wpS_done ⟨rfl, .inl ⟨_, rfl, (P.m.pushA P.la hle).done (.inl e)⟩⟩)
      fun e => wpS_ite (fun _ => wpS_done ⟨rfl, .inr ⟨rfl, P.pushA hle e⟩⟩) fun _ => wpS_yield ⟨rfl, rfl, P.pushA hle e⟩))
  · have hle := fun q hq => Int.le_trans (srt_upto S.sa P.la q hq) h
    exact wpS_bind (wpS_at (i := nb) P.lb (wpS_iteB (fun e => wpS_done ⟨rfl, .inl ⟨_, rfl, (P.m.pushB P.lb hle).firstB' S e⟩⟩)
      fun e => wpS_ite (fun _ => wpS_done ⟨rfl, .inr ⟨rfl, P.pushB hle e⟩⟩) fun _ => wpS_yield ⟨rfl, rfl, P.pushB hle e⟩))
theorem wpS_hi3 {mg k k1 : Nat} (ks : Keeps st st₁) (P : HP a b out (na + 1) nb z) (hle : ∀ q ∈ b.toList.take nb, nm q ≤ nm (a[na]'P.la)) :
    wpS (model prog w) A E s (hi3 a b out (na + 1) nb mg k k1) (Fr (hiQ st a b (z + 1)) (hiI st a b (z + 1))) st₁ :=
  wpS_bind (wpS_at (i := na) P.la (wpS_iteB (fun e => wpS_done ⟨ks, .inl ⟨_, rfl, (P.m.pushA P.la hle).done (.inl e)⟩⟩)
    fun e => wpS_ite (fun _ => wpS_done ⟨ks, .inr ⟨rfl, P.pushA hle e⟩⟩) fun _ => wpS_yield ⟨ks, rfl, P.pushA hle e⟩))
theorem pass_ge {x : Array Keyed} {i n : Nat} {v : Int} (h : ∀ j, i ≤ j → j < n → v ≤ K x j) : ∀ p ∈ (x.extract i n).toList, v ≤ nm p := fun p hp => by
  obtain ⟨j, h1, h2, hj2, rfl⟩ := mem_ext2 hp
  have := h j h1 h2
  rwa [K_eq hj2] at this
theorem upto_le {x : Array Keyed} {n : Nat} {v : Int} (h : ∀ j, j < n → K x j ≤ v) : ∀ p ∈ x.toList.take n, nm p ≤ v := fun p hp => by
  obtain ⟨j, h1, hj2, rfl⟩ := mem_take2 hp
  have := h j h1
  rwa [K_eq hj2] at this
theorem wpS_hi2 {mg k bc : Nat} (hk : kindOf st = oneType') (S : Stat a b) (ks : Keeps st st₁) (P : HP a b out (na + 1) (nb + 1) z) (hle : ∀ q ∈ a.toList.take (na + 1), nm q ≤ nm (b[nb]'P.lb)) :
    wpS (model prog w) A E s (hi2 a b out (na + 1) (nb + 1) mg k bc) (Fr (hiQ st a b (z + 1)) (hiI st a b (z + 1))) st₁ := by
  refine wpS_bind (wpS_at (i := nb) P.lb (wpS_iteB (fun e => wpS_done ⟨ks, .inl ⟨_, rfl, (P.m.pushB P.lb hle).firstB' S e⟩⟩) fun e => ?_))
  have P := (P.pushB hle e).less
  have hp := Nat.lt_of_succ_lt P.pb
  refine wpS_bind (wpS_at (i := na) P.la (wpS_bind (wpS_gal0 (ks.kind.trans hk) (isI_at S.na P.la) S.nb (Nat.sub_lt hp Nat.one_pos) P.lb (fun i j hij hj => srt_K S.sb hij (Nat.lt_of_lt_of_le hj P.lb)) fun at_ hat hlo hhi => ?_)))
  refine wpS_ite (fun _ => ?_) fun h0 => ?_
  · have M := P.m.moveB hat fun p hp q hq => Int.le_trans (srt_upto S.sa P.la q hq) (pass_ge hhi p hp)
    exact wpS_iteB (fun e => wpS_done ⟨ks, .inl ⟨_, rfl, M.firstB' S e⟩⟩) fun e1 => wpS_iteB (fun e => wpS_done ⟨ks, .inl ⟨_, rfl, M.done (.inr e)⟩⟩) fun e0 => wpS_hi3 ks (P.moveB M hat e1 e0) (upto_le hlo)
  · cases Nat.le_antisymm hat (Nat.le_of_sub_eq_zero (Nat.eq_zero_of_not_pos h0))
    exact wpS_hi3 ks P (upto_le hlo)
theorem wpS_hi1 {mg ac bc : Nat} (hk : kindOf st = oneType') (S : Stat a b) (ks : Keeps st st₁) (P : HP a b out (na + 1) (nb + 1) z) :
    wpS (model prog w) A E s (hi1 a b out (na + 1) (nb + 1) mg ac bc) (Fr (hiQ st a b (z + 1)) (hiI st a b (z + 1))) st₁ := by
  have ks := ks.mg mg
  refine wpS_bind (wpS_modify (wpS_bind (wpS_at (i := nb) P.lb (wpS_bind (wpS_gal0 (ks.kind.trans hk) (isI_at S.nb P.lb) S.na (Nat.lt_succ_self na) P.la (fun i j hij hj => srt_K S.sa hij (Nat.lt_of_lt_of_le hj P.la)) fun at_ hat hlo hhi => ?_)))))
  refine wpS_ite (fun _ => ?_) fun h0 => ?_
  · have M := P.m.moveA hat fun p hp q hq => Int.le_trans (srt_upto S.sb P.lb q hq) (pass_ge hhi p hp)
    refine wpS_iteB (fun e => wpS_done ⟨ks, .inl ⟨_, rfl, M.done (.inl e)⟩⟩) fun e => ?_
    obtain ⟨k, rfl⟩ := Nat.exists_eq_succ_of_ne_zero e
    exact wpS_hi2 hk S ks (P.moveA M hat e) (upto_le hlo)
  · cases Nat.le_antisymm hat (Nat.le_of_sub_eq_zero (Nat.eq_zero_of_not_pos h0))
    exact wpS_hi2 hk S ks P (upto_le hlo)
theorem HP.split (P : HP a b out na nb z) : ∃ m n, na = m + 1 ∧ nb = n + 1 :=
  ⟨na - 1, nb - 1, (Nat.sub_add_cancel P.pa).symm, (Nat.sub_add_cancel (Nat.le_of_lt P.pb)).symm⟩
theorem wpS_hiL {mg ac bc : Nat} (hk : kindOf st = oneType') (S : Stat a b) (P : HP a b out na nb z) :
    wpS (model prog w) A E s (hiL a b mg na nb out ac bc) (Fr (hlQ st a b (z + 1)) (hlI st a b (z + 1))) st := by
  obtain ⟨m, n, rfl, rfl⟩ := P.split
  exact wpS_hiL' hk S P
theorem wpS_hi0 {mg ac bc : Nat} (hk : kindOf st = oneType') (S : Stat a b) (ks : Keeps st st₁) (P : HP a b out na nb z) :
    wpS (model prog w) A E s (hi0 a b out na nb mg ac bc) (Fr (hiQ st a b (z + 1)) (hiI st a b (z + 1))) st₁ := by
  obtain ⟨m, n, rfl, rfl⟩ := P.split
  exact wpS_ite (fun _ => wpS_hi1 hk S ks P) fun _ => wpS_hi1 hk S ks P
theorem wpS_hiG {c : HSt} (ks : Keeps st st₁) (h : Halh a b z c.1 c.2.1 c.2.2.1 c.2.2.2.1) : wpS (model prog w) A E s (hiG c) (Fr (hoQ st a b) (hoI st a b z)) st₁ := by
  obtain ⟨o, _⟩ := c
  rcases h with ⟨r, e, g⟩ | ⟨e, P⟩ <;> cases e
  · exact wpS_done ⟨ks, r, rfl, g⟩
  · exact wpS_bind (wpS_modify (wpS_yield ⟨ks.mg _, rfl, P⟩))
theorem HP.mono {z' : Nat} (P : HP a b out na nb z') (h : z ≤ z') : HP a b out na nb z := ⟨P.m, P.pa, P.pb, P.la, P.lb, Nat.le_trans (Nat.add_le_add_left h _) P.lz⟩
theorem wpS_hiM {mg : Nat} {c : HlSt} (hk : kindOf st = oneType') (S : Stat a b) (ks : Keeps st st₁) (h : Halh a b z c.1 c.2.1 c.2.2.1 c.2.2.2.1) : wpS (model prog w) A E s (hiM a b mg c) (Fr (hoQ st a b) (hoI st a b z)) st₁ := by
  obtain ⟨o, _⟩ := c
  rcases h with ⟨r, e, g⟩ | ⟨e, P⟩ <;> cases e
  · exact wpS_done ⟨ks, r, rfl, g⟩
  · exact wpS_bind (wpS_lift (wpAny_rule ⟨rfl, wpS_bind (wpS_mono (wpS_for (fun y => hiI st a b (z + y)) (hiQ st a b z) ⟨ks, rfl, P⟩ (fun c st' h => h.2.2.no.elim)
      fun y c st' _ _ h => wpS_mono (wpS_hi0 hk S h.1 h.2.2) fun r st' q => by
        cases r
        · exact ⟨q.1, q.2.imp_right fun q => ⟨q.1, q.2.mono (Nat.le_add_right z (y + 1))⟩⟩
        · exact q) fun c st' h => wpS_hiG h.1 h.2)⟩))
theorem wpS_hiO {mg : Nat} (hk : kindOf st = oneType') (S : Stat a b) (ks : Keeps st st₁) (P : HP a b out na nb z) : wpS (model prog w) A E s (hiO a b out na nb mg) (Fr (hoQ st a b) (hoI st a b (z + 1))) st₁ :=
  wpS_bind (wpS_mono (wpS_for (fun y => hlI st₁ a b (z + y)) (hlQ st₁ a b (z + 1)) ⟨rfl, rfl, P⟩ (fun c st' h => h.2.2.no.elim)
    fun y c st' _ _ h => by
      cases h.1
      exact wpS_mono (wpS_hiL (ks.kind.trans hk) S h.2.2) fun r st' q => by
        cases r
        · exact ⟨q.1, q.2.imp_right fun q => ⟨q.1, q.2.mono (Nat.succ_le_succ (Nat.le_add_right z y))⟩⟩
        · exact q) fun c st' h => by
      cases h.1
      exact wpS_hiM hk S ks h.2)
end
theorem wpS_hiR {st : SortSt} {na nb : Nat} {out : Array Keyed} {mg : Nat} {Q : Array Keyed → SortSt → Prop} (hk : kindOf st = oneType') (S : Stat a b) (P : HP a b out na nb 0)
    (h : ∀ r st', Keeps st st' → Good a b r → Q r st') : wpS (model prog w) A E s (hiR a b na nb out mg) Q st :=
  wpS_bind (wpS_mono (wpS_for (fun x => hoI st a b (0 + x)) (hoQ st a b) ⟨.refl _, rfl, P⟩ (fun c st' h => h.2.2.no.elim)
    fun x c st' _ _ h => wpS_hiO hk S h.1 h.2.2) fun c st' q => by
      obtain ⟨o, _⟩ := c
      obtain ⟨r, e, g⟩ := q.2
      cases e
      exact wpS_pure (h r st' q.1 g))
theorem wpS_mergeHi {st : SortSt} {Q : Array Keyed → SortSt → Prop} (hk : kindOf st = oneType') (S : Stat a b)
    (h : ∀ r st', Keeps st st' → Good a b r → Q r st') : wpS (model prog w) A E s (mergeHi' a b) Q st := by
  have hl : a.size - 1 < a.size := Nat.sub_lt S.pa Nat.one_pos
  have start : MH a b #[a[a.size - 1]] (a.size - 1) b.size := by
    have ta : a.toList.take a.size = a.toList := List.take_of_length_le (by simp)
    have tb : b.toList.take b.size = b.toList := List.take_of_length_le (by simp)
    have h0 : MH a b #[] (a.size - 1 + 1) b.size := by
      rw [Nat.sub_add_cancel S.pa]
      exact ⟨by rw [ta]; simpa using S.sa, by rw [tb]; simpa using S.sb, by rw [ta, tb]; simp⟩
    exact h0.pushA hl (fun q hq => by
      have := S.last q (List.take_subset _ _ hq)
      rwa [K_eq hl] at this)
  rw [mergeHi'_eq]
  exact wpS_bind (wpS_lift (wpAny_rule ⟨rfl, wpS_bind (wpS_at hl (wpS_iteB (fun e => wpS_pure (h _ _ (.refl _) (start.done (.inl e))))
    fun e1 => wpS_iteB (fun e => wpS_pure (h _ _ (.refl _) (start.firstB' S e))) fun e2 =>
      wpS_bind (wpS_get (wpS_hiR hk S ⟨start, Nat.pos_of_ne_zero e1, Nat.lt_of_le_of_ne S.pb (Ne.symm e2), Nat.sub_le _ _, Nat.le_refl _, Nat.add_le_add_right (Nat.sub_le _ _) _⟩ h))))⟩))
end
end Mine
end
section
open PySem PyProof.Rows
set_option Elab.async false
namespace Mine
/-- ascending between two places -/
noncomputable def Seg (xs : Array Keyed) (a b : Nat) : Prop := ∀ i j, a ≤ i → i ≤ j → j < b → K xs i ≤ K xs j
structure SI (a₀ : Array Keyed) (st : SortSt) : Prop where
  perm : (arrOf st).Perm a₀
  kind : kindOf st = oneType'
  failed : failedOf st = none
theorem SI.size {a₀ : Array Keyed} {st : SortSt} (h : SI a₀ st) : (arrOf st).size = a₀.size := h.perm.size_eq
theorem SI.setArr {a₀ : Array Keyed} {st : SortSt} (h : SI a₀ st) {xs : Array Keyed} (hp : xs.Perm (arrOf st)) : SI a₀ (setArr st xs) := ⟨hp.trans h.perm, h.kind, h.failed⟩
theorem SI.setPend {a₀ : Array Keyed} {st : SortSt} (h : SI a₀ st) (p : Array (Nat × Nat × Nat)) : SI a₀ (setPending st p) := ⟨h.perm, h.kind, h.failed⟩
theorem SI.keeps {a₀ : Array Keyed} {st st' : SortSt} (h : SI a₀ st) (k : Keeps st st') : SI a₀ st' := ⟨by rw [k.arr]; exact h.perm, k.kind.trans h.kind, k.fail.trans h.failed⟩
structure Start (a₀ : Array Keyed) : Prop where
  isI : ∀ p ∈ a₀.toList, IsI p
  dist : (a₀.toList.map nm).Nodup
theorem SI.isI {a₀ : Array Keyed} {st : SortSt} (h : SI a₀ st) (z : Start a₀) : ∀ p ∈ (arrOf st).toList, IsI p := fun p hp => z.isI p ((Array.perm_iff_toList_perm.mp h.perm).mem_iff.mp hp)
theorem SI.ne {a₀ : Array Keyed} {st : SortSt} (h : SI a₀ st) (z : Start a₀) {i j : Nat} (hij : i < j) (hj : j < a₀.size) : K (arrOf st) i ≠ K (arrOf st) j := by
  have nd : ((arrOf st).toList.map nm).Nodup := ((Array.perm_iff_toList_perm.mp h.perm).map nm).nodup_iff.mpr z.dist
  have hj' : j < (arrOf st).size := h.size.symm ▸ hj
  rw [K_eq (Nat.lt_trans hij hj'), K_eq hj']
  have := List.pairwise_iff_getElem.mp nd i j (by rw [List.length_map, Array.length_toList]; exact Nat.lt_trans hij hj') (by rw [List.length_map, Array.length_toList]; exact hj') hij
  rwa [List.getElem_map, List.getElem_map] at this

theorem Seg.snoc {xs : Array Keyed} {a b : Nat} (hs : Seg xs a b) (h : K xs (b - 1) ≤ K xs b) : Seg xs a (b + 1) := fun i j hi hij hj => by
  rcases Nat.lt_or_eq_of_le (Nat.le_of_lt_succ hj) with c | c
  · exact hs i j hi hij c
  · subst c
    rcases Nat.lt_or_eq_of_le hij with d | d
    · exact Int.le_trans (hs i (j - 1) hi (Nat.le_sub_one_of_lt d) (Nat.sub_lt (Nat.lt_of_le_of_lt (Nat.zero_le _) d) Nat.one_pos)) h
    · subst d; exact Int.le_refl _
theorem Seg.one (xs : Array Keyed) (a : Nat) : Seg xs a (a + 1) := fun i j hi hij hj => by
  cases Nat.le_antisymm hij (Nat.le_trans (Nat.le_of_lt_succ hj) hi)
  exact Int.le_refl _
section
variable {xs : Array Keyed} {lo p q : Nat}
theorem bub_lt (hq : q < xs.size) (h : p ≤ q) {i : Nat} (hi : i < p) : K (bubble xs q (q - p)) i = K xs i := by
  rw [K_bubble hq (Nat.sub_le _ _), Nat.sub_sub_self h, if_neg (Nat.ne_of_lt hi), if_neg (fun c => Nat.lt_asymm hi c.1)]
theorem bub_eq (hq : q < xs.size) (h : p ≤ q) : K (bubble xs q (q - p)) p = K xs q := by
  rw [K_bubble hq (Nat.sub_le _ _), Nat.sub_sub_self h, if_pos rfl]
theorem bub_succ (hq : q < xs.size) (h : p ≤ q) {i : Nat} (hi : p ≤ i) (hi' : i < q) : K (bubble xs q (q - p)) (i + 1) = K xs i := by
  rw [K_bubble hq (Nat.sub_le _ _), Nat.sub_sub_self h, if_neg (Nat.ne_of_gt (Nat.lt_succ_of_le hi)), if_pos ⟨Nat.lt_succ_of_le hi, hi'⟩]; rfl
theorem bub_seg (hq : q < xs.size) (hlo : lo ≤ p) (h : p ≤ q) (hs : Seg xs lo q) (h1 : ∀ i, lo ≤ i → i < p → K xs i ≤ K xs q) (h2 : ∀ i, p ≤ i → i < q → K xs q < K xs i) : Seg (bubble xs q (q - p)) lo (q + 1) := by
  intro i j hi hij hj
  rcases Nat.lt_trichotomy j p with c | c | c
  · rw [bub_lt hq h c, bub_lt hq h (Nat.lt_of_le_of_lt hij c)]; exact hs i j hi hij (Nat.lt_of_lt_of_le c h)
  · subst c
    rw [bub_eq hq h]
    rcases Nat.lt_or_eq_of_le hij with d | d
    · rw [bub_lt hq h d]; exact h1 i hi d
    · subst d; rw [bub_eq hq h]; exact Int.le_refl _
  · obtain ⟨j, rfl⟩ := Nat.exists_eq_succ_of_ne_zero (Nat.ne_of_gt (Nat.lt_of_le_of_lt (Nat.zero_le _) c))
    have c := Nat.le_of_lt_succ c
    have hj := Nat.lt_of_succ_lt_succ hj
    rw [bub_succ hq h c hj]
    rcases Nat.lt_trichotomy i p with d | d | d
    · rw [bub_lt hq h d]; exact hs i j hi (Nat.le_trans (Nat.le_of_lt d) c) hj
    · subst d; rw [bub_eq hq h]; exact Int.le_of_lt (h2 j c hj)
    · obtain ⟨i, rfl⟩ := Nat.exists_eq_succ_of_ne_zero (Nat.ne_of_gt (Nat.lt_of_le_of_lt (Nat.zero_le _) d))
      have d := Nat.le_of_lt_succ d
      have hij := Nat.le_of_succ_le_succ hij
      rw [bub_succ hq h d (Nat.lt_of_le_of_lt hij hj)]; exact hs i j (Nat.le_trans hlo d) hij hj
end
noncomputable abbrev BSt := Option Bool × Nat × Nat
noncomputable def biMid (lo k l r : Nat) : SS (ForInStep BSt) :=
  if l ≥ r then pure (.done (none, l, r)) else do
    let x ← ltAt' (lo + k) (lo + (l + r) / 2)
    match x with
    | some less => if less = true then pure (.yield (none, l, (l + r) / 2)) else pure (.yield (none, (l + r) / 2 + 1, r))
    | _ => pure (.done (some false, l, r))
noncomputable def biP (lo k : Nat) (c : BSt) : SS (ForInStep (Option Bool × Unit)) :=
  match c.1 with
  | some r => pure (.done (some r, ()))
  | none => do
    moveDown' (lo + k) (lo + c.2.1)
    pure (.yield (none, ()))
noncomputable def biK (lo k : Nat) : SS (ForInStep (Option Bool × Unit)) := do
  let c ← forIn [0:k] ((none, 0, k) : BSt) fun _ c => biMid lo k c.2.1 c.2.2
  biP lo k c
theorem binarySort'_eq' (lo n ok : Nat) : binarySort' lo n ok = (do
  let c ← forIn [max ok 1 : n] ((none, ()) : Option Bool × Unit) fun k _ => biK lo k
  match c.1 with
  | some r => pure r
  | none => pure true) := by kernel_rfl
theorem mid2 {l r : Nat} (h : ¬ l ≥ r) : l ≤ (l + r) / 2 ∧ (l + r) / 2 < r := by
  have q : l < r := Nat.lt_of_not_le h
  exact ⟨(Nat.le_div_iff_mul_le Nat.two_pos).mpr (by rw [Nat.mul_two]; exact Nat.add_le_add_left (Nat.le_of_lt q) _), Nat.div_lt_of_lt_mul (by rw [Nat.two_mul]; exact Nat.add_lt_add_right q _)⟩
theorem mid2_sz {l r n x m : Nat} (h : r - l ≤ n - x) (h1 : l ≤ m) (h2 : m < r) : r - (m + 1) ≤ n - (x + 1) ∧ m - l ≤ n - (x + 1) :=
  ⟨Nat.le_trans (Nat.sub_le_sub_left (Nat.succ_le_succ h1) r) (Nat.sub_le_sub_right h 1), Nat.le_sub_one_of_lt (Nat.lt_of_lt_of_le (Nat.sub_lt_sub_right h1 h2) h)⟩
section
variable {prog : Program} {w : World} {A : Around} {E : Value → Shared → Prop} {s : Shared} {a₀ : Array Keyed}
theorem wpS_ltA {st : SortSt} {i j : Nat} {Q : Option Bool → SortSt → Prop} (I : SI a₀ st) (z : Start a₀) (hi : i < a₀.size) (hj : j < a₀.size)
    (h1 : K (arrOf st) i < K (arrOf st) j → Q (some true) st) (h2 : K (arrOf st) j ≤ K (arrOf st) i → Q (some false) st) : wpS (model prog w) A E s (ltAt' i j) Q st := by
  have hi' : i < (arrOf st).size := I.size.symm ▸ hi
  have hj' : j < (arrOf st).size := I.size.symm ▸ hj
  rw [K_eq hi', K_eq hj'] at h1 h2
  rw [ltAt'_eq]
  exact wpS_bind (wpS_get (wpS_bind (wpS_at hi' (wpS_bind (wpS_at hj' (wpS_ltC I.kind (isI_at (I.isI z) hi') (isI_at (I.isI z) hj') h1 h2))))))
structure BI (xs : Array Keyed) (lo k l r : Nat) : Prop where
  lr : l ≤ r
  rk : r ≤ k
  low : ∀ i, lo ≤ i → i < lo + l → K xs i ≤ K xs (lo + k)
  high : ∀ i, lo + r ≤ i → i < lo + k → K xs (lo + k) < K xs i
noncomputable abbrev bQ (st : SortSt) (P : Nat → Nat → Prop) : BSt → SortSt → Prop := fun c st' => st' = st ∧ c.1 = none ∧ P c.2.1 c.2.2
theorem wpS_biMid {st : SortSt} {lo k l r x : Nat} (I : SI a₀ st) (z : Start a₀) (hk : lo + k < a₀.size) (hs : Seg (arrOf st) lo (lo + k)) (B : BI (arrOf st) lo k l r) (sz : r - l ≤ k - x) :
    wpS (model prog w) A E s (biMid lo k l r) (Fr (bQ st fun l r => l = r ∧ BI (arrOf st) lo k l r) (bQ st fun l r => r - l ≤ k - (x + 1) ∧ BI (arrOf st) lo k l r)) st := by
  refine wpS_ite (fun h => wpS_done ⟨rfl, rfl, Nat.le_antisymm B.lr h, B⟩) fun h => ?_
  have m := mid2 h
  have mz := mid2_sz sz m.1 m.2
  have mk := Nat.add_lt_add_left (Nat.lt_of_lt_of_le m.2 B.rk) lo
  exact wpS_bind (wpS_ltA I z hk (Nat.lt_trans mk hk) (fun q => wpS_yield ⟨rfl, rfl, mz.2, m.1, Nat.le_trans (Nat.le_of_lt m.2) B.rk, B.low, fun i h1 h2 => Int.lt_of_lt_of_le q (hs _ i (Nat.le_add_right _ _) h1 h2)⟩)
    fun q => wpS_yield ⟨rfl, rfl, mz.1, m.2, B.rk, fun i h1 h2 => Int.le_trans (hs i _ h1 (Nat.le_of_lt_succ h2) mk) q, B.high⟩)
structure BS (a₀ : Array Keyed) (st : SortSt) (lo k : Nat) (st' : SortSt) : Prop where
  si : SI a₀ st'
  pe : pendingOf st' = pendingOf st
  se : Seg (arrOf st') lo (lo + k)
  un : ∀ j, j < lo → K (arrOf st') j = K (arrOf st) j
noncomputable abbrev bkQ (P : SortSt → Prop) : Option Bool × Unit → SortSt → Prop := fun c st' => c.1 = none ∧ P st'
theorem wpS_biP {st st' : SortSt} {lo k n : Nat} {c : BSt} (hk : lo + k < a₀.size) (B : BS a₀ st lo k st') (e : c.1 = none) (G : BI (arrOf st') lo k c.2.1 c.2.1) :
    wpS (model prog w) A E s (biP lo k c) (Fr (bkQ (BS a₀ st lo n)) (bkQ (BS a₀ st lo (k + 1)))) st' := by
  obtain ⟨o, l, r⟩ := c
  cases e
  have hq : lo + k < (arrOf st').size := B.si.size.symm ▸ hk
  have h := Nat.add_le_add_left G.rk lo
  exact wpS_bind (wpS_modify (wpS_yield ⟨rfl, B.si.setArr (bubble_perm _ _ _), B.pe, bub_seg hq (Nat.le_add_right _ _) h B.se G.low G.high, fun j hj => (bub_lt hq h (Nat.lt_of_lt_of_le hj (Nat.le_add_right _ _))).trans (B.un j hj)⟩))
theorem wpS_biK {st st' : SortSt} {lo k n : Nat} (z : Start a₀) (hk : lo + k < a₀.size) (B : BS a₀ st lo k st') :
    wpS (model prog w) A E s (biK lo k) (Fr (bkQ (BS a₀ st lo n)) (bkQ (BS a₀ st lo (k + 1)))) st' := by
  refine wpS_bind (wpS_mono (wpS_for (fun x => bQ st' fun l r => r - l ≤ k - x ∧ BI (arrOf st') lo k l r) (bQ st' fun l r => l = r ∧ BI (arrOf st') lo k l r)
    ⟨rfl, rfl, Nat.le_refl _, Nat.zero_le _, Nat.le_refl _, fun i h1 h2 => absurd h2 (Nat.not_lt_of_le h1), fun i h1 h2 => absurd h2 (Nat.not_lt_of_le h1)⟩ (fun c st'' h => ?_) fun x c st'' _ _ h => ?_) fun c st'' h => ?_)
  · exact ⟨h.1, h.2.1, Nat.le_antisymm h.2.2.2.lr (bin_no h.2.2.1), h.2.2.2⟩
  · cases h.1
    exact wpS_biMid B.si z hk B.se h.2.2.2 h.2.2.1
  · cases h.1
    have G := h.2.2.2
    rw [← h.2.2.1] at G
    exact wpS_biP hk B h.2.1 G
theorem wpS_binAt {st : SortSt} {lo n ok : Nat} {Q : Bool → SortSt → Prop} (z : Start a₀) (hn : lo + n ≤ a₀.size) (h1 : 1 ≤ ok) (hok : ok ≤ n) (I : SI a₀ st) (hs : Seg (arrOf st) lo (lo + ok))
    (h : ∀ st', SI a₀ st' → pendingOf st' = pendingOf st → Seg (arrOf st') lo (lo + n) → (∀ j, j < lo → K (arrOf st') j = K (arrOf st) j) → Q true st') : wpS (model prog w) A E s (binarySort' lo n ok) Q st := by
  rw [binarySort'_eq', Nat.max_eq_left h1]
  refine wpS_bind (wpS_mono (wpS_for (fun k => bkQ (BS a₀ st lo k)) (bkQ (BS a₀ st lo n)) ⟨rfl, I, rfl, hs, fun _ _ => rfl⟩ (fun c st' h => ?_) fun k c st' _ hk h => wpS_biK z (Nat.lt_of_lt_of_le (Nat.add_lt_add_left hk lo) hn) h.2) fun c st' B => ?_)
  · rw [Nat.max_eq_right hok] at h; exact h
  · obtain ⟨o, _⟩ := c
    cases B.1
    exact wpS_pure (h st' B.2.si B.2.pe B.2.se B.2.un)
end
end Mine
end
section
open PySem PyProof.Rows
set_option Elab.async false
namespace Mine
/-- descending between two places -/
noncomputable def Dsc (xs : Array Keyed) (a b : Nat) : Prop := ∀ i j, a ≤ i → i ≤ j → j < b → K xs j ≤ K xs i
theorem Dsc.snoc {xs : Array Keyed} {a b : Nat} (hs : Dsc xs a b) (h : K xs b ≤ K xs (b - 1)) : Dsc xs a (b + 1) := fun i j hi hij hj => by
  rcases Nat.lt_or_eq_of_le (Nat.le_of_lt_succ hj) with c | c
  · exact hs i j hi hij c
  · subst c
    rcases Nat.lt_or_eq_of_le hij with d | d
    · exact Int.le_trans h (hs i (j - 1) hi (Nat.le_sub_one_of_lt d) (Nat.sub_lt (Nat.lt_of_le_of_lt (Nat.zero_le _) d) Nat.one_pos))
    · subst d; exact Int.le_refl _
theorem mir_lt {xs : Array Keyed} {lo e j : Nat} (he : e ≤ xs.size) (hj : j < lo) : K (mirror xs lo e ((e - lo) / 2)) j = K xs j := by
  rw [K_mirror he, if_neg (fun c => Nat.not_lt_of_le c.1 hj)]
theorem mir_at {lo e i : Nat} (h1 : lo ≤ i) (h2 : i < e) : lo ≤ lo + e - 1 - i ∧ lo + e - 1 - i < e := by
  have p : 0 < lo + e := Nat.lt_of_lt_of_le (Nat.lt_of_le_of_lt (Nat.zero_le _) h2) (Nat.le_add_left _ _)
  exact ⟨Nat.le_sub_of_add_le (Nat.le_sub_one_of_lt (Nat.add_lt_add_left h2 lo)), Nat.sub_lt_left_of_lt_add (Nat.le_sub_one_of_lt (Nat.lt_of_lt_of_le h2 (Nat.le_add_left e lo))) (Nat.lt_of_lt_of_le (Nat.sub_lt p Nat.one_pos) (Nat.add_le_add_right h1 e))⟩
theorem mir_seg {xs : Array Keyed} {lo e : Nat} (he : e ≤ xs.size) (hD : Dsc xs lo e) : Seg (mirror xs lo e ((e - lo) / 2)) lo e := fun i j hi hij hj => by
  have hi' := Nat.lt_of_le_of_lt hij hj
  have hj' := Nat.le_trans hi hij
  rw [K_mirror he, K_mirror he, if_pos ⟨hi, hi'⟩, if_pos ⟨hj', hj⟩]
  exact hD _ _ (mir_at hj' hj).1 (Nat.sub_le_sub_left hij _) (mir_at hi hi').2
noncomputable abbrev AscS := Option (Option Nat) × Nat
noncomputable abbrev DscS := Option (Option Nat) × Nat × Nat
noncomputable def asB (lo n : Nat) : SS (ForInStep AscS) := do
  let x ← ltAt' (lo + n) (lo + n - 1)
  match x with
  | some smaller => if smaller = true then pure (.done (none, n)) else pure (.yield (none, n + 1))
  | _ => pure (.done (some none, n))
noncomputable def dsB (lo n neq : Nat) : SS (ForInStep DscS) := do
  let x ← ltAt' (lo + n) (lo + n - 1)
  match x with
  | some smaller =>
    if smaller = true then
      if neq > 0 then do
        reverseSlice' (lo + n - (neq + 1)) (lo + n)
        pure (.yield (none, n + 1, 0))
      else pure (.yield (none, n + 1, 0))
    else do
      let y ← ltAt' (lo + n - 1) (lo + n)
      match y with
      | some larger => if larger = true then pure (.done (none, n, neq)) else pure (.yield (none, n + 1, neq + 1))
      | _ => pure (.done (some none, n, neq))
  | _ => pure (.done (some none, n, neq))
noncomputable def crE (c : AscS) : SS (Option Nat) :=
  match c.1 with
  | some r => pure r
  | none => pure (some c.2)
noncomputable def crD (lo nrem n : Nat) : SS (Option Nat) := do
  reverseSlice' lo (lo + n)
  let c ← forIn [n:nrem] ((none, n) : AscS) fun _ c => asB lo c.2
  crE c
noncomputable def crC (lo nrem : Nat) (c : DscS) : SS (Option Nat) :=
  match c.1 with
  | some r => pure r
  | none =>
    if c.2.2 > 0 then do
      reverseSlice' (lo + c.2.1 - (c.2.2 + 1)) (lo + c.2.1)
      crD lo nrem c.2.1
    else crD lo nrem c.2.1
noncomputable def crB (lo nrem n : Nat) : SS (Option Nat) := do
  liftM (rule "list.sort.descending-run")
  let c ← forIn [n + 1:nrem] ((none, n + 1, 0) : DscS) fun _ c => dsB lo c.2.1 c.2.2
  crC lo nrem c
noncomputable def crA (lo nrem : Nat) (c : AscS) : SS (Option Nat) :=
  match c.1 with
  | some r => pure r
  | none =>
    if (c.2 == nrem) = true then pure (some c.2)
    else if c.2 > 1 then do
      let x ← ltAt' lo (lo + c.2 - 1)
      match x with
      | some rose => if rose = true then pure (some c.2) else do
          reverseSlice' lo (lo + c.2)
          crB lo nrem c.2
      | _ => pure none
    else crB lo nrem c.2
theorem countRun'_eq' (lo nrem : Nat) : countRun' lo nrem = (do
  let c ← forIn [1:nrem] ((none, 1) : AscS) fun _ c => asB lo c.2
  crA lo nrem c) := by kernel_rfl
section
variable {prog : Program} {w : World} {A : Around} {E : Value → Shared → Prop} {s : Shared} {a₀ : Array Keyed}
theorem pos_of {a : Nat} (h : 1 ≤ a) (lo : Nat) : 0 < lo + a := Nat.lt_of_lt_of_le h (Nat.le_add_left _ _)
theorem wpS_asB {st : SortSt} {lo nrem x : Nat} (z : Start a₀) (hn : lo + nrem ≤ a₀.size) (hx : x < nrem) (I : SI a₀ st) (hs : Seg (arrOf st) lo (lo + x)) :
    wpS (model prog w) A E s (asB lo x) (Fr (fun c st' => st' = st ∧ c = (none, x) ∧ K (arrOf st) (lo + x) < K (arrOf st) (lo + x - 1)) (fun c st' => st' = st ∧ c = (none, x + 1) ∧ Seg (arrOf st) lo (lo + (x + 1)))) st :=
  have h := Nat.lt_of_lt_of_le (Nat.add_lt_add_left hx lo) hn
  wpS_bind (wpS_ltA I z h (Nat.lt_of_le_of_lt (Nat.sub_le _ _) h) (fun q => wpS_done ⟨rfl, rfl, q⟩) fun q => wpS_yield ⟨rfl, rfl, hs.snoc q⟩)
theorem wpS_asc {st : SortSt} {lo a nrem : Nat} {Q : AscS → SortSt → Prop} (z : Start a₀) (hn : lo + nrem ≤ a₀.size) (han : a ≤ nrem) (I : SI a₀ st) (hs : Seg (arrOf st) lo (lo + a))
    (h : ∀ n, a ≤ n → n ≤ nrem → Seg (arrOf st) lo (lo + n) → (n = nrem ∨ K (arrOf st) (lo + n) < K (arrOf st) (lo + n - 1)) → Q (none, n) st) :
    wpS (model prog w) A E s (forIn [a:nrem] ((none, a) : AscS) fun _ c => asB lo c.2) Q st := by
  refine wpS_mono (wpS_for (fun x c st' => st' = st ∧ c = (none, x) ∧ Seg (arrOf st) lo (lo + x)) (fun c st' => st' = st ∧ ∃ n, c = (none, n) ∧ a ≤ n ∧ n ≤ nrem ∧ Seg (arrOf st) lo (lo + n) ∧ (n = nrem ∨ K (arrOf st) (lo + n) < K (arrOf st) (lo + n - 1)))
    ⟨rfl, rfl, hs⟩ (fun c st' q => ?_) fun x c st' ha hx q => ?_) fun c st' q => ?_
  · rw [Nat.max_eq_right han] at q
    exact ⟨q.1, nrem, q.2.1, han, Nat.le_refl _, q.2.2, .inl rfl⟩
  · obtain ⟨rfl, rfl, hs⟩ := q
    exact wpS_mono (wpS_asB z hn hx I hs) fun r st' k => by
      cases r with
      | done c => exact ⟨k.1, x, k.2.1, ha, Nat.le_of_lt hx, hs, .inr k.2.2⟩
      | yield c => exact k
  · obtain ⟨rfl, n, rfl, h1, h2, h3, h4⟩ := q
    exact h n h1 h2 h3 h4
theorem wpS_dsB {st : SortSt} {lo nrem x : Nat} (z : Start a₀) (hn : lo + nrem ≤ a₀.size) (hx : x < nrem) (h1 : 1 ≤ x) (I : SI a₀ st) (hs : Dsc (arrOf st) lo (lo + x)) :
    wpS (model prog w) A E s (dsB lo x 0) (Fr (fun c st' => st' = st ∧ c = (none, x, 0)) (fun c st' => st' = st ∧ c = (none, x + 1, 0) ∧ Dsc (arrOf st) lo (lo + (x + 1)))) st := by
  have h := Nat.lt_of_lt_of_le (Nat.add_lt_add_left hx lo) hn
  have h' := Nat.lt_of_le_of_lt (Nat.sub_le _ 1) h
  refine wpS_bind (wpS_ltA I z h h' (fun q => wpS_yield ⟨rfl, rfl, hs.snoc (Int.le_of_lt q)⟩) fun q => wpS_bind (wpS_ltA I z h' h (fun _ => wpS_done ⟨rfl, rfl⟩) fun q' => ?_))
  exact absurd (Int.le_antisymm q q') (I.ne z (Nat.sub_lt (pos_of h1 lo) Nat.one_pos) h)
theorem wpS_crB {st : SortSt} {lo nrem : Nat} {Q : Option Nat → SortSt → Prop} (z : Start a₀) (hn : lo + nrem ≤ a₀.size) (h1 : 1 < nrem) (I : SI a₀ st) (hlt : K (arrOf st) (lo + 1) < K (arrOf st) (lo + 1 - 1))
    (h : ∀ m st', SI a₀ st' → pendingOf st' = pendingOf st → 1 ≤ m → m ≤ nrem → Seg (arrOf st') lo (lo + m) → (∀ j, j < lo → K (arrOf st') j = K (arrOf st) j) → Q (some m) st') :
    wpS (model prog w) A E s (crB lo nrem 1) Q st := by
  have hD : Dsc (arrOf st) lo (lo + 1) := fun i j hi hij hj => by
    cases Nat.le_antisymm hij (Nat.le_trans (Nat.le_of_lt_succ hj) hi)
    exact Int.le_refl _
  refine wpS_bind (wpS_lift (wpAny_rule ⟨rfl, wpS_bind (wpS_mono (wpS_for (fun x c st' => st' = st ∧ c = (none, x, 0) ∧ Dsc (arrOf st) lo (lo + x)) (fun c st' => st' = st ∧ ∃ m, c = (none, m, 0) ∧ 1 ≤ m ∧ m ≤ nrem ∧ Dsc (arrOf st) lo (lo + m))
    ⟨rfl, rfl, hD.snoc (Int.le_of_lt hlt)⟩ (fun c st' q => ?_) fun x c st' ha hx q => ?_) fun c st' q => ?_)⟩))
  · rw [Nat.max_eq_right h1] at q
    exact ⟨q.1, nrem, q.2.1, Nat.le_of_lt h1, Nat.le_refl _, q.2.2⟩
  · obtain ⟨rfl, rfl, hs⟩ := q
    exact wpS_mono (wpS_dsB z hn hx (Nat.le_of_succ_le ha) I hs) fun r st' k => by
      cases r with
      | done c => exact ⟨k.1, x, k.2, Nat.le_of_succ_le ha, Nat.le_of_lt hx, hs⟩
      | yield c => exact k
  · obtain ⟨rfl, m, rfl, hm1, hm2, hD⟩ := q
    have hsz : lo + m ≤ (arrOf st').size := I.size.symm ▸ Nat.le_trans (Nat.add_le_add_left hm2 lo) hn
    have I' : SI a₀ (setArr st' (mirror (arrOf st') lo (lo + m) ((lo + m - lo) / 2))) := I.setArr (mirror_perm _ _ _ _)
    exact wpS_bind (wpS_modify (wpS_bind (wpS_asc z hn hm2 I' (mir_seg hsz hD) fun k hk1 hk2 hsk _ => wpS_pure (h k _ I' rfl (Nat.le_trans hm1 hk1) hk2 hsk fun j hj => mir_lt hsz hj))))
theorem wpS_runAt {st : SortSt} {lo nrem : Nat} {Q : Option Nat → SortSt → Prop} (z : Start a₀) (hn : lo + nrem ≤ a₀.size) (h1 : 1 ≤ nrem) (I : SI a₀ st)
    (h : ∀ m st', SI a₀ st' → pendingOf st' = pendingOf st → 1 ≤ m → m ≤ nrem → Seg (arrOf st') lo (lo + m) → (∀ j, j < lo → K (arrOf st') j = K (arrOf st) j) → Q (some m) st') :
    wpS (model prog w) A E s (countRun' lo nrem) Q st := by
  rw [countRun'_eq']
  refine wpS_bind (wpS_asc z hn h1 I (Seg.one _ _) fun n hn1 hn2 hsn hor => ?_)
  refine wpS_iteB (fun _ => wpS_pure (h n st I rfl hn1 hn2 hsn fun _ _ => rfl)) fun hnn => ?_
  have hlt := hor.resolve_left hnn
  have hln := Nat.lt_of_lt_of_le (Nat.add_lt_add_left (Nat.lt_of_le_of_ne hn2 hnn) lo) hn
  have hl' := Nat.lt_of_le_of_lt (Nat.sub_le (lo + n) 1) hln
  refine wpS_ite (fun hgt => ?_) fun hgt => ?_
  · have hp : lo < lo + n - 1 := Nat.lt_sub_of_add_lt (Nat.add_lt_add_left hgt lo)
    exact wpS_bind (wpS_ltA I z (Nat.lt_trans hp hl') hl' (fun _ => wpS_pure (h n st I rfl hn1 hn2 hsn fun _ _ => rfl)) fun q =>
      absurd (Int.le_antisymm (hsn lo _ (Nat.le_refl _) (Nat.le_of_lt hp) (Nat.sub_lt (pos_of hn1 lo) Nat.one_pos)) q) (I.ne z hp hl'))
  · cases Nat.le_antisymm hn1 (Nat.le_of_not_lt hgt)
    exact wpS_crB z hn (Nat.lt_of_le_of_ne hn2 hnn) I hlt h
end
end Mine
end
section
open PySem PyProof.Rows
set_option Elab.async false
namespace Mine
noncomputable def spl (sa : Nat) (l : List Keyed) (k : Nat) (xs : Array Keyed) : Array Keyed := (l.zipIdx k).foldl (fun a (p, j) => a.setIfInBounds (sa + j) p) xs
noncomputable def mgZ (sa : Nat) (m : Array Keyed) : SS Bool := do
  modify fun s => setArr s (spl sa m.toList 0 (arrOf s))
  let s ← get
  pure (failedOf s).isNone
noncomputable def mgC (xs : Array Keyed) (sa na sb nb : Nat) : SS Bool :=
  if na ≤ nb then do
    let m ← mergeLo' (xs.extract sa sb) (xs.extract sb (sb + nb))
    mgZ sa m
  else do
    let m ← mergeHi' (xs.extract sa sb) (xs.extract sb (sb + nb))
    mgZ sa m
noncomputable def mgB (xs : Array Keyed) (sa na sb nb : Nat) : SS Bool := do
  let p ← elem' xs (sa + na - 1)
  let x ← gallop' true p xs sb nb (nb - 1)
  match x with
  | some nb => if (nb == 0) = true then pure true else mgC xs sa na sb nb
  | _ => pure false
noncomputable def mgA (xs : Array Keyed) (sa na sb nb : Nat) : SS Bool := do
  let p ← elem' xs sb
  let x ← gallop' false p xs sa na 0
  match x with
  | some k => if (na - k == 0) = true then pure true else mgB xs (sa + k) (na - k) sb nb
  | _ => pure false
theorem mergeAt'_eq (i : Nat) : mergeAt' i = (do
  let s ← get
  match (pendingOf s)[i]?, (pendingOf s)[i + 1]? with
  | some (sa, na, power), some (sb, nb, _) => do
    set (setPending s (((pendingOf s).setIfInBounds i (sa, na + nb, power)).eraseIdxIfInBounds (i + 1)))
    mgA (arrOf s) sa na sb nb
  | _, _ => unsupported "internal:list.sort.pending") := by kernel_rfl
theorem spl_list (sa : Nat) : ∀ (l : List Keyed) (k : Nat) (xs : Array Keyed), sa + k + l.length ≤ xs.size → (spl sa l k xs).toList = xs.toList.take (sa + k) ++ (l ++ xs.toList.drop (sa + k + l.length))
  | [], k, xs, _ => (List.take_append_drop _ _).symm
  | p :: l, k, xs, h => by
    have h' : sa + (k + 1) + l.length ≤ xs.size := Nat.le_trans (Nat.le_of_eq (Nat.succ_add_eq_add_succ (sa + k) l.length)) h
    have hk : sa + k < xs.toList.length := by
      rw [Array.length_toList]; exact Nat.lt_of_lt_of_le (Nat.lt_add_of_pos_right (Nat.zero_lt_succ _)) h
    show (spl sa l (k + 1) (xs.setIfInBounds (sa + k) p)).toList = _
    rw [spl_list sa l (k + 1) _ (by rw [Array.size_setIfInBounds]; exact h'), Array.toList_setIfInBounds, List.drop_set_of_lt (show sa + k < sa + (k + 1) + l.length from Nat.lt_of_lt_of_le (Nat.lt_succ_self (sa + k)) (Nat.le_add_right _ _))]
    rw [show sa + (k + 1) = sa + k + 1 from rfl, List.take_succ_eq_append_getElem (by rw [List.length_set]; exact hk), List.getElem_set_self, List.take_set_of_le (Nat.le_refl _), List.append_assoc, Nat.succ_add_eq_add_succ]
    rfl
section
variable {xs ys r : Array Keyed} {p q e a : Nat}
theorem spl_in (h : ys.toList = xs.toList.take p ++ (r.toList ++ xs.toList.drop (p + r.size))) (hp : p ≤ xs.size) {t : Nat} (ht : t < r.size) : K ys (p + t) = K r t := by
  have hl : (xs.toList.take p).length = p := by rw [List.length_take, Array.length_toList]; exact Nat.min_eq_left hp
  refine K_congr ?_
  rw [← Array.getElem?_toList, h, List.getElem?_append_right (by rw [hl]; exact Nat.le_add_right _ _), hl, Nat.add_sub_cancel_left, List.getElem?_append_left (by rw [Array.length_toList]; exact ht), Array.getElem?_toList]
theorem spl_out (h : ys.toList = xs.toList.take p ++ (r.toList ++ xs.toList.drop (p + r.size))) (hp : p ≤ xs.size) {j : Nat} (hj : j < p ∨ p + r.size ≤ j) : K ys j = K xs j := by
  have hl : (xs.toList.take p).length = p := by rw [List.length_take, Array.length_toList]; exact Nat.min_eq_left hp
  refine K_congr ?_
  rw [← Array.getElem?_toList, h]
  rcases hj with hj | hj
  · rw [List.getElem?_append_left (by rw [hl]; exact hj), List.getElem?_take_of_lt hj, Array.getElem?_toList]
  · obtain ⟨d, rfl⟩ := Nat.exists_eq_add_of_le hj
    rw [List.getElem?_append_right (by rw [hl, Nat.add_assoc]; exact Nat.le_add_right _ _), hl, Nat.add_assoc, Nat.add_sub_cancel_left, List.getElem?_append_right (by rw [Array.length_toList]; exact Nat.le_add_right _ _), Array.length_toList, Nat.add_sub_cancel_left, List.getElem?_drop, Array.getElem?_toList, Nat.add_assoc]
/-- the stretch between p and q is ordered anew -/
structure Anew (xs ys : Array Keyed) (p q : Nat) : Prop where
  out : ∀ j, j < p ∨ q ≤ j → K ys j = K xs j
  mem : ∀ j, p ≤ j → j < q → ∃ x, p ≤ x ∧ x < q ∧ K ys j = K xs x
  srt : ∀ i j, p ≤ i → i ≤ j → j < q → K ys i ≤ K ys j
theorem Anew.seg (h : Anew xs ys p q) (hap : a ≤ p) (hqe : q ≤ e) (low : ∀ x y, a ≤ x → x < p → x ≤ y → y < e → K xs x ≤ K xs y) (high : ∀ x y, a ≤ x → x ≤ y → q ≤ y → y < e → K xs x ≤ K xs y) : Seg ys a e := by
  intro i j hi hij hj
  rcases Nat.lt_or_ge i p with c | c
  · rw [h.out i (.inl c)]
    by_cases d : j < p ∨ q ≤ j
    · rw [h.out j d]; exact low i j hi c hij hj
    · obtain ⟨x, h1, h2, e'⟩ := h.mem j (Nat.le_of_not_lt fun c => d (.inl c)) (Nat.lt_of_not_le fun c => d (.inr c))
      rw [e']; exact low i x hi c (Nat.le_trans (Nat.le_of_lt c) h1) (Nat.lt_of_lt_of_le h2 hqe)
  · rcases Nat.lt_or_ge j q with d | d
    · exact h.srt i j c hij d
    · rw [h.out j (.inr d)]
      rcases Nat.lt_or_ge i q with c' | c'
      · obtain ⟨x, h1, h2, e'⟩ := h.mem i c c'
        rw [e']; exact high x j (Nat.le_trans hap h1) (Nat.le_trans (Nat.le_of_lt h2) d) d hj
      · rw [h.out i (.inr c')]; exact high i j hi hij d hj
theorem K_ext {i j t : Nat} (h : i + t < j) (hj : j ≤ xs.size) : K (xs.extract i j) t = K xs (i + t) := by
  refine K_congr ?_
  rw [Array.getElem?_extract, if_pos (Nat.lt_sub_of_add_lt (by rw [Nat.min_eq_left hj, Nat.add_comm]; exact h))]
theorem ext_size (hj : q ≤ xs.size) : (xs.extract p q).size = q - p := by rw [Array.size_extract, Nat.min_eq_left hj]
theorem seg_srt (h : Seg xs p q) (hj : q ≤ xs.size) : Srt (xs.extract p q).toList := by
  refine List.pairwise_iff_getElem.mpr fun x y hx hy hxy => ?_
  have hy' := hy
  rw [Array.length_toList, ext_size hj] at hy'
  have hy2 := Nat.add_lt_of_lt_sub' hy'
  have hx2 := Nat.lt_trans (Nat.add_lt_add_left hxy p) hy2
  have := h (p + x) (p + y) (Nat.le_add_right _ _) (Nat.add_le_add_left (Nat.le_of_lt hxy) p) hy2
  rw [K_eq (Nat.lt_of_lt_of_le hx2 hj), K_eq (Nat.lt_of_lt_of_le hy2 hj)] at this
  rw [Array.getElem_toList, Array.getElem_toList, Array.getElem_extract, Array.getElem_extract]
  exact this
theorem mem_ext3 {n : Keyed} (h : n ∈ (xs.extract p q).toList) : ∃ j, p ≤ j ∧ j < q ∧ j < xs.size ∧ nm n = K xs j := by
  obtain ⟨j, h1, h2, h3, rfl⟩ := mem_ext2 h
  exact ⟨j, h1, h2, h3, (K_eq h3).symm⟩
theorem isI_ext (h : ∀ p ∈ xs.toList, IsI p) : ∀ n ∈ (xs.extract p q).toList, IsI n := fun n hn => by
  obtain ⟨j, _, _, hj, rfl⟩ := mem_ext2 hn
  exact isI_at h hj
end
section
variable {prog : Program} {w : World} {A : Around} {E : Value → Shared → Prop} {s : Shared} {a₀ xs : Array Keyed} {st : SortSt} {sa na sb nb : Nat}
theorem K_nm {i : Nat} (h : i < xs.size) : K xs i = nm xs[i] := K_eq h
structure Two (xs : Array Keyed) (p sb q : Nat) : Prop where
  isI : ∀ n ∈ xs.toList, IsI n
  pa : p < sb
  pb : sb < q
  size : q ≤ xs.size
  s1 : Seg xs p sb
  s2 : Seg xs sb q
  first : ∀ j, p ≤ j → j < sb → K xs sb ≤ K xs j
  last : ∀ j, sb ≤ j → j < q → K xs j ≤ K xs (sb - 1)
theorem Two.stat {p q : Nat} (T : Two xs p sb q) : Stat (xs.extract p sb) (xs.extract sb q) := by
  have hb := Nat.le_trans (Nat.le_of_lt T.pb) T.size
  refine ⟨isI_ext T.isI, isI_ext T.isI, seg_srt T.s1 hb, seg_srt T.s2 T.size, ?_, ?_, fun n hn => ?_, fun n hn => ?_⟩
  · rw [ext_size hb]; exact Nat.sub_pos_of_lt T.pa
  · rw [ext_size T.size]; exact Nat.sub_pos_of_lt T.pb
  · obtain ⟨j, h1, h2, _, e⟩ := mem_ext3 hn
    rw [e, K_ext (t := 0) T.pb T.size]; exact T.first j h1 h2
  · obtain ⟨j, h1, h2, _, e⟩ := mem_ext3 hn
    have e1 : p + (sb - p - 1) = sb - 1 := by rw [← Nat.add_sub_assoc (Nat.sub_pos_of_lt T.pa), Nat.add_sub_cancel' (Nat.le_of_lt T.pa)]
    rw [e, ext_size hb, K_ext (by rw [e1]; exact Nat.sub_lt (Nat.lt_of_le_of_lt (Nat.zero_le _) T.pa) Nat.one_pos) hb, e1]; exact T.last j h1 h2
theorem wpS_mgZ {st2 : SortSt} {p q : Nat} {r : Array Keyed} {Q : Bool → SortSt → Prop} (I : SI a₀ st2) (ha : arrOf st2 = xs) (T : Two xs p sb q) (G : Good (xs.extract p sb) (xs.extract sb q) r)
    (h : ∀ st', SI a₀ st' → pendingOf st' = pendingOf st2 → Anew xs (arrOf st') p q → Q true st') : wpS (model prog w) A E s (mgZ p r) Q st2 := by
  have hb := Nat.le_trans (Nat.le_of_lt T.pb) T.size
  have hpq := Nat.lt_trans T.pa T.pb
  have hr : p + r.size = q := by
    rw [← Array.length_toList, G.2.length_eq, List.length_append, Array.length_toList, Array.length_toList, ext_size hb, ext_size T.size, ← Nat.add_assoc, Nat.add_sub_cancel' (Nat.le_of_lt T.pa), Nat.add_sub_cancel' (Nat.le_of_lt T.pb)]
  have hl : (spl p r.toList 0 xs).toList = xs.toList.take p ++ (r.toList ++ xs.toList.drop (p + r.size)) := spl_list p r.toList 0 xs (by rw [Array.length_toList]; exact Nat.le_trans (Nat.le_of_eq hr) T.size)
  have hp := Nat.le_trans (Nat.le_of_lt hpq) T.size
  have hperm : (spl p r.toList 0 xs).Perm xs := by
    refine Array.perm_iff_toList_perm.mpr ?_
    rw [hl]
    have : xs.toList = xs.toList.take p ++ (((xs.extract p sb).toList ++ (xs.extract sb q).toList) ++ xs.toList.drop (p + r.size)) := by
      rw [hr, List.append_assoc, ← List.append_assoc, take_ext _ (Nat.le_of_lt T.pa), ← List.append_assoc, take_ext _ (Nat.le_of_lt T.pb), List.take_append_drop]
    conv => rhs; rw [this]
    exact List.Perm.append_left _ (List.Perm.append_right _ G.2)
  have N : Anew xs (spl p r.toList 0 xs) p q := by
    refine ⟨fun j hj => spl_out hl hp (hr.symm ▸ hj), fun j h1 h2 => ?_, fun i j h1 h2 h3 => ?_⟩
    · obtain ⟨t, rfl⟩ := Nat.exists_eq_add_of_le h1
      have ht : t < r.size := Nat.lt_of_add_lt_add_left (hr.symm ▸ h2)
      rw [spl_in hl hp ht, K_eq ht]
      rcases List.mem_append.mp (G.2.mem_iff.mp (Array.getElem_mem_toList ht)) with m | m
      · obtain ⟨x, a1, a2, _, a4⟩ := mem_ext3 m; exact ⟨x, a1, Nat.lt_trans a2 T.pb, a4⟩
      · obtain ⟨x, a1, a2, _, a4⟩ := mem_ext3 m; exact ⟨x, Nat.le_trans (Nat.le_of_lt T.pa) a1, a2, a4⟩
    · obtain ⟨t, rfl⟩ := Nat.exists_eq_add_of_le h1
      obtain ⟨u, rfl⟩ := Nat.exists_eq_add_of_le (Nat.le_trans h1 h2)
      have hu : u < r.size := Nat.lt_of_add_lt_add_left (hr.symm ▸ h3)
      have htu := Nat.le_of_add_le_add_left h2
      rw [spl_in hl hp (Nat.lt_of_le_of_lt htu hu), spl_in hl hp hu]
      exact srt_K G.1 htu hu
  subst ha
  refine wpS_bind (wpS_modify (wpS_bind (wpS_get (wpS_pure ?_))))
  show Q (failedOf st2).isNone _
  rw [I.failed]
  exact h _ (I.setArr hperm) rfl N
theorem wpS_mgC {st1 : SortSt} {p : Nat} {Q : Bool → SortSt → Prop} (I : SI a₀ st1) (ha : arrOf st1 = xs) (T : Two xs p sb (sb + nb))
    (h : ∀ st', SI a₀ st' → pendingOf st' = pendingOf st1 → Anew xs (arrOf st') p (sb + nb) → Q true st') : wpS (model prog w) A E s (mgC xs p na sb nb) Q st1 :=
  wpS_ite (fun _ => wpS_bind (wpS_mergeLo I.kind T.stat fun _ _ ks g => wpS_mgZ (I.keeps ks) (ks.arr.trans ha) T g fun st' a1 a2 a3 => h st' a1 (a2.trans ks.pend) a3))
    fun _ => wpS_bind (wpS_mergeHi I.kind T.stat fun _ _ ks g => wpS_mgZ (I.keeps ks) (ks.arr.trans ha) T g fun st' a1 a2 a3 => h st' a1 (a2.trans ks.pend) a3)
theorem wpS_mgA {st1 : SortSt} {Q : Bool → SortSt → Prop} (z : Start a₀) (I : SI a₀ st1) (ha : arrOf st1 = xs) (hsb : sb = sa + na) (hna : 1 ≤ na) (hnb : 1 ≤ nb) (hsz : sb + nb ≤ a₀.size)
    (s1 : Seg xs sa sb) (s2 : Seg xs sb (sb + nb))
    (h : ∀ st', SI a₀ st' → pendingOf st' = pendingOf st1 → Seg (arrOf st') sa (sb + nb) → (∀ j, j < sa ∨ sb + nb ≤ j → K (arrOf st') j = K xs j) → Q true st') :
    wpS (model prog w) A E s (mgA xs sa na sb nb) Q st1 := by
  have hI : ∀ n ∈ xs.toList, IsI n := ha ▸ I.isI z
  have hz : sb + nb ≤ xs.size := by rw [← ha, I.size]; exact hsz
  have hbe : sb < sb + nb := Nat.lt_add_of_pos_right hnb
  have hb : sb < xs.size := Nat.lt_of_lt_of_le hbe hz
  have hab : sa < sb := hsb ▸ Nat.lt_add_of_pos_right hna
  have hl1 : sb - 1 < sb := Nat.sub_lt (Nat.lt_of_le_of_lt (Nat.zero_le _) hab) Nat.one_pos
  have hl := Nat.lt_trans hl1 hb
  refine wpS_bind (wpS_at hb (wpS_bind (wpS_galF I.kind (isI_at hI hb) hI hna (hsb ▸ Nat.le_of_lt hb) (fun x y hx hxy hy => s1 x y hx hxy (hsb ▸ hy)) fun k hk hlo hhi => ?_)))
  rw [← K_nm hb] at hlo hhi
  rw [← hsb] at hhi
  have low : ∀ x y, sa ≤ x → x < sa + k → x ≤ y → y < sb + nb → K xs x ≤ K xs y := fun x y h1 h2 h3 h4 => by
    rcases Nat.lt_or_ge y sb with c | c
    · exact s1 x y h1 h3 c
    · exact Int.le_trans (hlo x h1 h2) (s2 sb y (Nat.le_refl _) c h4)
  refine wpS_iteB (fun e => ?_) fun e => ?_
  · have ek : sa + k = sb := by rw [hsb, Nat.le_antisymm hk (Nat.le_of_sub_eq_zero e)]
    refine wpS_pure (h st1 I rfl (fun x y hx hxy hy => ?_) fun _ _ => by rw [ha])
    rw [ha]
    rcases Nat.lt_or_ge x sb with c | c
    · exact low x y hx (ek.symm ▸ c) hxy hy
    · exact s2 x y c hxy hy
  have hkn : k < na := Nat.lt_of_sub_pos (Nat.pos_of_ne_zero e)
  have hp : sa + k < sb := hsb ▸ Nat.add_lt_add_left hkn sa
  have e1 : sa + k + (na - k) - 1 = sb - 1 := by rw [Nat.add_assoc, Nat.add_sub_cancel' hk, ← hsb]
  refine wpS_bind (wpS_elem (p := xs[sb - 1]) (by rw [e1]; exact getElem?_pos xs _ hl) (wpS_bind (wpS_galT I.kind (isI_at hI hl) hI (Nat.sub_lt hnb Nat.one_pos) hz (fun x y hx hxy hy => s2 x y hx hxy hy) fun k2 hk2 hlo2 hhi2 => ?_)))
  rw [← K_nm hl] at hlo2 hhi2
  have hq := Nat.add_le_add_left hk2 sb
  have high : ∀ x y, sa ≤ x → x ≤ y → sb + k2 ≤ y → y < sb + nb → K xs x ≤ K xs y := fun x y h1 h2 h3 h4 => by
    rcases Nat.lt_or_ge x sb with c | c
    · exact Int.le_trans (s1 x (sb - 1) h1 (Nat.le_sub_one_of_lt c) hl1) (hhi2 y h3 h4)
    · exact s2 x y c h2 h4
  refine wpS_iteB (fun e => ?_) fun e => ?_
  · refine wpS_pure (h st1 I rfl (fun x y hx hxy hy => ?_) fun _ _ => by rw [ha])
    rw [ha]
    rcases Nat.lt_or_ge y sb with c | c
    · exact s1 x y hx hxy c
    · exact high x y hx hxy (by rw [e]; exact c) hy
  exact wpS_mgC I ha ⟨hI, hp, Nat.lt_add_of_pos_right (Nat.pos_of_ne_zero e), Nat.le_trans hq hz, fun x y hx hxy hy => s1 x y (Nat.le_trans (Nat.le_add_right _ _) hx) hxy hy, fun x y hx hxy hy => s2 x y hx hxy (Nat.lt_of_lt_of_le hy hq), hhi, hlo2⟩
    fun st' a1 a2 a3 => h st' a1 a2 (a3.seg (Nat.le_add_right _ _) hq low high) fun j hj => a3.out j (hj.imp (fun c => Nat.lt_of_lt_of_le c (Nat.le_add_right _ _)) fun c => Nat.le_trans hq c)
theorem wpS_mergeAt {i pw pw2 : Nat} {Q : Bool → SortSt → Prop} (z : Start a₀) (I : SI a₀ st)
    (e1 : (pendingOf st)[i]? = some (sa, na, pw)) (e2 : (pendingOf st)[i + 1]? = some (sb, nb, pw2)) (hsb : sb = sa + na) (hna : 1 ≤ na) (hnb : 1 ≤ nb) (hsz : sb + nb ≤ a₀.size)
    (s1 : Seg (arrOf st) sa sb) (s2 : Seg (arrOf st) sb (sb + nb))
    (h : ∀ st', SI a₀ st' → pendingOf st' = ((pendingOf st).setIfInBounds i (sa, na + nb, pw)).eraseIdxIfInBounds (i + 1) → Seg (arrOf st') sa (sb + nb) →
      (∀ j, j < sa ∨ sb + nb ≤ j → K (arrOf st') j = K (arrOf st) j) → Q true st') : wpS (model prog w) A E s (mergeAt' i) Q st := by
  rw [mergeAt'_eq]
  refine wpS_bind (wpS_get ?_)
  rw [e1, e2]
  refine wpS_bind (m := set _) ?_
  unfold wpS
  rw [StateT.run_set]
  exact wpAny_pure ⟨rfl, wpS_mgA z (I.setPend (((pendingOf st).setIfInBounds i (sa, na + nb, pw)).eraseIdxIfInBounds (i + 1))) rfl hsb hna hnb hsz s1 s2 h⟩
end
end Mine
end
section
open PySem PyProof.Rows
set_option Elab.async false
namespace Mine
noncomputable abbrev Pd := Nat × Nat × Nat
/-- runs, one behind the other -/
noncomputable def Chn (xs : Array Keyed) : List Pd → Nat → Nat → Prop
  | [], a, b => a = b
  | e :: r, a, b => e.1 = a ∧ 1 ≤ e.2.1 ∧ Seg xs a (a + e.2.1) ∧ Chn xs r (a + e.2.1) b
theorem Chn.le {xs : Array Keyed} : ∀ {l : List Pd} {a b : Nat}, Chn xs l a b → a + l.length ≤ b
  | [], _, _, h => Nat.le_of_eq h
  | e :: l, a, b, ⟨_, h1, _, h⟩ => Nat.le_trans (by rw [List.length_cons, Nat.add_comm l.length 1, ← Nat.add_assoc]; exact Nat.add_le_add_right (Nat.add_le_add_left h1 a) _) h.le
theorem Chn.append {xs : Array Keyed} : ∀ {l m : List Pd} {a b c : Nat}, Chn xs l a b → Chn xs m b c → Chn xs (l ++ m) a c
  | [], _, _, _, _, h, k => by cases h; exact k
  | _ :: _, _, _, _, _, ⟨h1, h2, h3, h⟩, k => ⟨h1, h2, h3, h.append k⟩
theorem Chn.split {xs : Array Keyed} : ∀ {l m : List Pd} {a c : Nat}, Chn xs (l ++ m) a c → ∃ b, Chn xs l a b ∧ Chn xs m b c
  | [], _, a, _, h => ⟨a, rfl, h⟩
  | _ :: _, _, _, _, ⟨h1, h2, h3, h⟩ => by obtain ⟨b, x, y⟩ := h.split; exact ⟨b, ⟨h1, h2, h3, x⟩, y⟩
theorem Chn.congr {xs ys : Array Keyed} : ∀ {l : List Pd} {a b : Nat}, (∀ j, a ≤ j → j < b → K ys j = K xs j) → Chn xs l a b → Chn ys l a b
  | [], _, _, _, h => h
  | _ :: _, a, b, e, ⟨h1, h2, h3, h⟩ => by
    have q := Nat.le_trans (Nat.le_add_right _ _) h.le
    exact ⟨h1, h2, fun i j hai hij hj => by rw [e i hai (Nat.lt_of_lt_of_le (Nat.lt_of_le_of_lt hij hj) q), e j (Nat.le_trans hai hij) (Nat.lt_of_lt_of_le hj q)]; exact h3 i j hai hij hj, h.congr fun j x y => e j (Nat.le_trans (Nat.le_add_right _ _) x) y⟩
theorem at2 {l : List Pd} {i : Nat} {e f : Pd} (hi : i + 1 < l.length) (h1 : l[i] = e) (h2 : l[i + 1] = f) : l = l.take i ++ e :: f :: l.drop (i + 2) := by
  rw [← h1, ← h2, ← List.drop_eq_getElem_cons hi, ← List.drop_eq_getElem_cons (Nat.lt_of_succ_lt hi), List.take_append_drop]
theorem merged_list {p : Array Pd} {i : Nat} {v : Pd} (h : i + 1 < p.size) : ((p.setIfInBounds i v).eraseIdxIfInBounds (i + 1)).toList = p.toList.take i ++ v :: p.toList.drop (i + 2) := by
  have hi : i < p.toList.length := by rw [Array.length_toList]; exact Nat.lt_of_succ_lt h
  unfold Array.eraseIdxIfInBounds
  rw [dif_pos (by rw [Array.size_setIfInBounds]; exact h), Array.toList_eraseIdx, Array.toList_setIfInBounds, List.eraseIdx_eq_take_drop_succ, List.drop_set_of_lt (show i < i + 1 + 1 from Nat.lt_of_lt_of_le (Nat.lt_succ_self i) (Nat.le_succ _)),
    List.take_succ_eq_append_getElem (by rw [List.length_set]; exact hi), List.getElem_set_self, List.take_set_of_le (Nat.le_refl _), List.append_assoc]
  rfl
structure RS (a₀ : Array Keyed) (lo : Nat) (st : SortSt) : Prop where
  base : SI a₀ st
  chn : Chn (arrOf st) (pendingOf st).toList 0 lo
section
variable {prog : Program} {w : World} {A : Around} {E : Value → Shared → Prop} {s : Shared} {a₀ : Array Keyed}
theorem wpS_mergeR {st : SortSt} {i lo : Nat} {Q : Bool → SortSt → Prop} (z : Start a₀) (R : RS a₀ lo st) (hlo : lo ≤ a₀.size) (hi : i + 1 < (pendingOf st).size)
    (h : ∀ st', RS a₀ lo st' → (pendingOf st').size + 1 = (pendingOf st).size → (∀ j, lo ≤ j → K (arrOf st') j = K (arrOf st) j) → Q true st') : wpS (model prog w) A E s (mergeAt' i) Q st := by
  have hi' := Nat.lt_of_succ_lt hi
  have hl := at2 (l := (pendingOf st).toList) (i := i) (by rw [Array.length_toList]; exact hi) (Array.getElem_toList hi') (Array.getElem_toList hi)
  have e1 : (pendingOf st)[i]? = some (pendingOf st)[i] := getElem?_pos (pendingOf st) i hi'
  have e2 : (pendingOf st)[i + 1]? = some (pendingOf st)[i + 1] := getElem?_pos (pendingOf st) (i + 1) hi
  generalize (pendingOf st)[i] = e at e1 hl
  generalize (pendingOf st)[i + 1] = f at e2 hl
  obtain ⟨sa, na, pw⟩ := e
  obtain ⟨sb, nb, pw2⟩ := f
  have c := R.chn
  rw [hl] at c
  obtain ⟨b, c1, c2⟩ := c.split
  have q1 : sa = b := c2.1
  have q4 : sb = b + na := c2.2.2.2.1
  subst q1
  subst q4
  have c3 : Chn _ _ (sa + na + nb) lo := c2.2.2.2.2.2.2
  have hb := Nat.le_trans (Nat.le_add_right _ _) c3.le
  refine wpS_mergeAt z R.base e1 e2 rfl c2.2.1 c2.2.2.2.2.1 (Nat.le_trans hb hlo) c2.2.2.1 c2.2.2.2.2.2.1 fun st' i1 i2 i3 i4 => ?_
  have hm := merged_list (p := pendingOf st) (i := i) (v := (sa, na + nb, pw)) hi
  refine h st' ⟨i1, ?_⟩ ?_ (fun j hj => i4 j (.inr (Nat.le_trans hb hj)))
  · rw [i2, hm]
    refine (c1.congr fun j _ hj => i4 j (.inl hj)).append ⟨rfl, Nat.le_trans c2.2.1 (Nat.le_add_right _ _), ?_, ?_⟩
    · show Seg (arrOf st') sa (sa + (na + nb))
      rw [← Nat.add_assoc]; exact i3
    · show Chn _ _ (sa + (na + nb)) lo
      rw [← Nat.add_assoc]
      exact c3.congr fun j hj _ => i4 j (.inr hj)
  · rw [i2, ← Array.length_toList, hm, ← Array.length_toList, congrArg List.length hl, List.length_append, List.length_append]
    rfl
theorem Chn.same {xs : Array Keyed} : ∀ {l l' : List Pd} {a b : Nat}, l'.map (fun e => (e.1, e.2.1)) = l.map (fun e => (e.1, e.2.1)) → Chn xs l a b → Chn xs l' a b
  | [], [], _, _, _, h => h
  | [], _ :: _, _, _, e, _ => by simp at e
  | _ :: _, [], _, _, e, _ => by simp at e
  | e :: l, e' :: l', a, b, q, ⟨h1, h2, h3, h⟩ => by
    simp only [List.map_cons, List.cons.injEq, Prod.mk.injEq] at q
    obtain ⟨⟨q1, q2⟩, q3⟩ := q
    exact ⟨q1.trans h1, by rw [q2]; exact h2, by rw [q2]; exact h3, by rw [q2]; exact h.same q3⟩
theorem modify_same (p : Array Pd) (i pw : Nat) : ((p.modify i fun (st, len, _) => (st, len, pw)).toList).map (fun e => (e.1, e.2.1)) = p.toList.map (fun e => (e.1, e.2.1)) := by
  apply List.ext_getElem?
  intro j
  rw [List.getElem?_map, List.getElem?_map, Array.getElem?_toList, Array.getElem?_toList, Array.getElem?_modify]
  split
  · cases p[j]? <;> rfl
  · rfl
theorem RS.pushR {lo n : Nat} {st : SortSt} (R : RS a₀ lo st) (hn : 1 ≤ n) (hs : Seg (arrOf st) lo (lo + n)) : RS a₀ (lo + n) (setPending st ((pendingOf st).push (lo, n, 0))) := by
  refine ⟨R.base.setPend _, ?_⟩
  show Chn (arrOf st) ((pendingOf st).push (lo, n, 0)).toList 0 (lo + n)
  rw [Array.toList_push]
  exact R.chn.append ⟨rfl, hn, hs, rfl⟩
theorem RS.modR {lo i pw : Nat} {st : SortSt} (R : RS a₀ lo st) : RS a₀ lo (setPending st ((pendingOf st).modify i fun (st, len, _) => (st, len, pw))) :=
  ⟨R.base.setPend _, R.chn.same (modify_same _ _ _)⟩

noncomputable abbrev SrSt := Option Unit × Nat
noncomputable abbrev SmSt := Option Unit × Unit
noncomputable def srP (lo n : Nat) : SS (ForInStep SrSt) := do
  modify fun s => setPending s ((pendingOf s).push (lo, n, 0))
  pure (.yield (none, lo + n))
noncomputable def srM (pw : Nat) : SS (ForInStep SmSt) := do
  let s ← get
  match (if (pendingOf s).size > 1 then (pendingOf s)[(pendingOf s).size - 2]? else none) with
  | some (_, _, older) => if older ≤ pw then pure (.done (none, ())) else do
      let ok ← mergeAt' ((pendingOf s).size - 2)
      if (!ok) = true then pure (.done (some (), ())) else pure (.yield (none, ()))
  | _ => pure (.done (none, ()))
noncomputable def srN (lo n pw : Nat) (c : SmSt) : SS (ForInStep SrSt) :=
  match c.1 with
  | some r => pure (.done (some r, lo))
  | none => do
    modify fun s => setPending s ((pendingOf s).modify ((pendingOf s).size - 1) fun (st, len, _) => (st, len, pw))
    srP lo n
noncomputable def srJ (size lo n : Nat) : SS (ForInStep SrSt) := do
  let s ← get
  match (pendingOf s).back? with
  | some (s1, n1, _) => do
    let c ← forIn [0:size] ((none, ()) : SmSt) fun _ _ => srM (power' size (2 * s1 + n1) (2 * s1 + n1 + n1 + n) size)
    srN lo n (power' size (2 * s1 + n1) (2 * s1 + n1 + n1 + n) size) c
  | _ => srP lo n
noncomputable def srK (size minrun lo n : Nat) : SS (ForInStep SrSt) :=
  if n < minrun then do
    liftM (rule "list.sort.binary-insertion")
    let ok ← binarySort' lo (min (size - lo) minrun) n
    if (!ok) = true then pure (.done (some (), lo)) else srJ size lo (min (size - lo) minrun)
  else srJ size lo n
noncomputable def srL (size minrun lo : Nat) : SS (ForInStep SrSt) :=
  if lo ≥ size then pure (.done (none, lo)) else do
    let x ← countRun' lo (size - lo)
    match x with
    | some n => srK size minrun lo n
    | _ => pure (.done (some (), lo))
noncomputable def srI (p : Array Pd) : Nat :=
  if Option.any (fun x => decide (x < p[p.size - 2 + 1]?.elim 0 fun x => x.2.1)) (if p.size - 2 > 0 then Option.map (fun x => x.2.1) p[p.size - 2 - 1]? else none) = true then p.size - 2 - 1 else p.size - 2
noncomputable def srX : SS (ForInStep SmSt) := do
  let s ← get
  if (pendingOf s).size ≤ 1 then pure (.done (none, ())) else do
    let ok ← mergeAt' (srI (pendingOf s))
    if (!ok) = true then pure (.done (some (), ())) else pure (.yield (none, ()))
noncomputable def srE (c : SmSt) : SS Unit :=
  match c.1 with
  | some r => pure r
  | none => pure ()
noncomputable def srF (size : Nat) (c : SrSt) : SS Unit :=
  match c.1 with
  | some r => pure r
  | none => do
    let c ← forIn [0:size] ((none, ()) : SmSt) fun _ _ => srX
    srE c
theorem sortRuns'_eq' : sortRuns' = (do
  let s ← get
  let c ← forIn [0:(arrOf s).size] ((none, 0) : SrSt) fun _ c => srL (arrOf s).size (minRun' (arrOf s).size (arrOf s).size 0) c.2
  srF (arrOf s).size c) := by kernel_rfl
theorem two_lt {n : Nat} (h : 1 < n) : n - 2 + 1 < n := by
  match n, h with
  | n + 2, _ => exact Nat.lt_succ_self _
theorem ite_le {c : Prop} [Decidable c] {n : Nat} : (if c then n - 1 else n) ≤ n := by
  split
  · exact Nat.sub_le _ _
  · exact Nat.le_refl _
theorem srI_lt {p : Array Pd} (h : 1 < p.size) : srI p + 1 < p.size := Nat.lt_of_le_of_lt (Nat.succ_le_succ ite_le) (two_lt h)
structure RK (a₀ : Array Keyed) (lo : Nat) (st st' : SortSt) : Prop where
  r : RS a₀ lo st'
  k : ∀ j, lo ≤ j → K (arrOf st') j = K (arrOf st) j
noncomputable abbrev srQ (a₀ : Array Keyed) : SrSt → SortSt → Prop := fun c st' => c.1 = none ∧ RS a₀ a₀.size st'
noncomputable abbrev srY (a₀ : Array Keyed) (x : Nat) : SrSt → SortSt → Prop := fun c st' => c.1 = none ∧ RS a₀ c.2 st' ∧ c.2 ≤ a₀.size ∧ x ≤ c.2
noncomputable abbrev bkS (a₀ : Array Keyed) (lo : Nat) (st : SortSt) : SmSt → SortSt → Prop := fun c st' => c.1 = none ∧ RK a₀ lo st st'
section
variable {st st' : SortSt} {lo n x pw : Nat}
theorem wpS_srM (z : Start a₀) (hlo : lo ≤ a₀.size) (R : RK a₀ lo st st') : wpS (model prog w) A E s (srM pw) (Fr (bkS a₀ lo st) (bkS a₀ lo st)) st' := by
  refine wpS_bind (wpS_get ?_)
  generalize ho : (if (pendingOf st').size > 1 then (pendingOf st')[(pendingOf st').size - 2]? else none) = o
  obtain _ | ⟨_, _, older⟩ := o
  · exact wpS_done ⟨rfl, R⟩
  · have hsz : 1 < (pendingOf st').size := by
      refine Nat.lt_of_not_le fun c => ?_
      rw [if_neg (Nat.not_lt_of_le c)] at ho
      cases ho
    exact wpS_ite (fun _ => wpS_done ⟨rfl, R⟩) fun _ => wpS_bind (wpS_mergeR z R.r hlo (two_lt hsz) fun st2 R2 _ hk2 => wpS_yield ⟨rfl, R2, fun j hj => (hk2 j hj).trans (R.k j hj)⟩)
theorem wpS_srP (R : RS a₀ lo st) (hn : 1 ≤ n) (hz : lo + n ≤ a₀.size) (hx : x ≤ lo) (hs : Seg (arrOf st) lo (lo + n)) : wpS (model prog w) A E s (srP lo n) (Fr (srQ a₀) (srY a₀ (x + 1))) st :=
  wpS_bind (wpS_modify (wpS_yield ⟨rfl, R.pushR hn hs, hz, Nat.add_le_add hx hn⟩))
theorem wpS_srJ (z : Start a₀) (R : RS a₀ lo st) (hn : 1 ≤ n) (hz : lo + n ≤ a₀.size) (hx : x ≤ lo) (hs : Seg (arrOf st) lo (lo + n)) : wpS (model prog w) A E s (srJ a₀.size lo n) (Fr (srQ a₀) (srY a₀ (x + 1))) st := by
  refine wpS_bind (wpS_get ?_)
  have hlo := Nat.le_trans (Nat.le_add_right _ _) hz
  obtain _ | ⟨s1, n1, _⟩ := (pendingOf st).back?
  · exact wpS_srP R hn hz hx hs
  · refine wpS_bind (wpS_mono (wpS_for (fun _ => bkS a₀ lo st) (bkS a₀ lo st) ⟨rfl, R, fun _ _ => rfl⟩ (fun _ _ h => h) fun _ c st' _ _ h => wpS_srM z hlo h.2) fun c st' h => ?_)
    obtain ⟨o, _⟩ := c
    cases h.1
    exact wpS_bind (wpS_modify (wpS_srP h.2.r.modR hn hz hx fun i j hi hij hj => by
      show K (arrOf st') i ≤ K (arrOf st') j
      rw [h.2.k i hi, h.2.k j (Nat.le_trans hi hij)]; exact hs i j hi hij hj))
theorem wpS_srL {minrun : Nat} (z : Start a₀) (R : RS a₀ lo st) (hlo : lo ≤ a₀.size) (hx : x ≤ lo) : wpS (model prog w) A E s (srL a₀.size minrun lo) (Fr (srQ a₀) (srY a₀ (x + 1))) st := by
  refine wpS_ite (fun h => wpS_done ⟨rfl, Nat.le_antisymm hlo h ▸ R⟩) fun h => ?_
  have hr := Nat.add_sub_cancel' hlo
  refine wpS_bind (wpS_runAt z (Nat.le_of_eq hr) (Nat.sub_pos_of_lt (Nat.lt_of_not_le h)) R.base fun m st2 I2 hp2 hm1 hm2 hs2 hk2 => ?_)
  refine wpS_ite (fun hlt => wpS_bind (wpS_lift (wpAny_rule ⟨rfl, ?_⟩))) fun _ => wpS_srJ z ⟨I2, hp2 ▸ R.chn.congr fun j _ hj => hk2 j hj⟩ hm1 (hr ▸ Nat.add_le_add_left hm2 lo) hx hs2
  have hmin := Nat.min_le_left (a₀.size - lo) minrun
  have hm := Nat.le_min.mpr ⟨hm2, Nat.le_of_lt hlt⟩
  have hf := Nat.le_trans (Nat.add_le_add_left hmin lo) (Nat.le_of_eq hr)
  exact wpS_bind (wpS_binAt z hf hm1 hm I2 hs2 fun st3 I3 hp3 hs3 hk3 => wpS_srJ z ⟨I3, by
    rw [hp3, hp2]; exact R.chn.congr fun j _ hj => (hk3 j hj).trans (hk2 j hj)⟩ (Nat.le_trans hm1 hm) hf hx hs3)
theorem wpS_srX (z : Start a₀) (R : RS a₀ a₀.size st) (hx : x + (pendingOf st).size ≤ a₀.size) :
    wpS (model prog w) A E s srX (Fr (fun c st' => c.1 = none ∧ RS a₀ a₀.size st' ∧ (pendingOf st').size ≤ 1) (fun c st' => c.1 = none ∧ RS a₀ a₀.size st' ∧ x + 1 + (pendingOf st').size ≤ a₀.size)) st :=
  wpS_bind (wpS_get (wpS_ite (fun h => wpS_done ⟨rfl, R, h⟩) fun h => wpS_bind (wpS_mergeR z R (Nat.le_refl _) (srI_lt (Nat.lt_of_not_le h)) fun st2 R2 e _ => wpS_yield ⟨rfl, R2, by
    rw [← e] at hx; rw [Nat.succ_add]; exact hx⟩)))
end
theorem wpS_sortAll {st : SortSt} {Q : Unit → SortSt → Prop} (z : Start a₀) (I : SI a₀ st) (hp : pendingOf st = #[]) (h2 : 2 ≤ a₀.size)
    (h : ∀ st', (arrOf st').Perm a₀ → failedOf st' = none → Seg (arrOf st') 0 a₀.size → Q () st') : wpS (model prog w) A E s sortRuns' Q st := by
  rw [sortRuns'_eq']
  refine wpS_bind (wpS_get ?_)
  rw [I.size]
  refine wpS_bind (wpS_mono (wpS_for (fun x => srY a₀ x) (srQ a₀) ⟨rfl, ⟨I, by rw [hp]; rfl⟩, Nat.zero_le _, Nat.le_refl _⟩ (fun c st' h => ?_) fun x c st' _ _ h => wpS_srL z h.2.1 h.2.2.1 h.2.2.2) fun c st' q => ?_)
  · have e := h.2.2.2
    rw [Nat.zero_max] at e
    exact ⟨h.1, Nat.le_antisymm h.2.2.1 e ▸ h.2.1⟩
  · obtain ⟨o, _⟩ := c
    cases q.1
    refine wpS_bind (wpS_mono (wpS_for (fun x c st' => c.1 = none ∧ RS a₀ a₀.size st' ∧ x + (pendingOf st').size ≤ a₀.size) (fun c st' => c.1 = none ∧ RS a₀ a₀.size st' ∧ (pendingOf st').size ≤ 1) ⟨rfl, q.2, ?_⟩ (fun c st' k => ?_) fun x c st' _ _ k => wpS_srX z k.2.1 k.2.2) fun c st' k => ?_)
    · have := q.2.chn.le
      rwa [Array.length_toList] at this
    · have e := k.2.2
      rw [Nat.zero_max] at e
      exact ⟨k.1, k.2.1, Nat.le_trans (Nat.le_of_add_le_add_left (c := 0) e) (Nat.zero_le 1)⟩
    · obtain ⟨o, _⟩ := c
      cases k.1
      refine wpS_pure (h _ k.2.1.base.perm k.2.1.base.failed ?_)
      have c := k.2.1.chn
      have hl := k.2.2
      rw [← Array.length_toList] at hl
      generalize (pendingOf st').toList = l at c hl
      match l, c, hl with
      | [], c, _ => exact absurd (c : 0 = a₀.size) (Nat.ne_of_lt (Nat.lt_of_lt_of_le Nat.two_pos h2))
      | [e], ⟨_, _, c3, c4⟩, _ => exact (c4 : 0 + e.2.1 = a₀.size) ▸ c3
end
end Mine
end
section
open PySem PySem.W PySem.Calls PyProof.Rows
set_option Elab.async false
set_option maxRecDepth 100000
namespace Mine
section
variable {prog : Program} {w : World} {A : Around} {E : Value → Shared → Prop} {s : Shared}
theorem start_of {vs : List Value} {ns : List Int} (hI : IntsAre vs ns) (hd : ns.Nodup) : Start (pairsOf vs) := by
  refine ⟨fun p hp => hI.intKeys p hp, ?_⟩
  rw [pairsOf_toList]
  have : (vs.zip vs).map nm = ((vs.zip vs).map Prod.fst).map numOf := by rw [List.map_map]; rfl
  rw [this, List.map_fst_zip (Nat.le_refl _), hI.nums]
  exact hd
theorem list_sort_all {a : Addr} {vs : List Value} {ns : List Int} {n : Nat} {P : PySem.Fin → Shared → Prop} (ho : s.heap.get? a = some (seqObj "list" vs.toArray n))
    (hI : IntsAre vs ns) (hd : ns.Nodup) (hz : vs.length ≤ 10000)
    (h : ∀ (out : Array Value) (ns' : List Int), IntsAre out.toList ns' → ns'.Perm ns → ns'.Pairwise (· ≤ ·) → P (.done (.ret .none)) { s with heap := sortedHeap s.heap a vs out }) :
    wpAny (model prog w) A (Builtin.«list.sort» ⟨[.ref a], []⟩) P E s := by
  rw [list_sort_plain]
  have hzs : vs.toArray.size ≤ sizeLine := by rw [List.size_toArray]; exact Nat.le_trans hz (by decide)
  have ha : a < s.heap.objs.size := Heap.lt_size ho
  refine wpAny_bind (listItems_at ho rfl ?_)
  refine wpAny_bind (listUpdate_at ho rfl ?_ hzs (Nat.zero_le _))
  obtain ⟨e1, ho1⟩ : ∃ e1, (s.heap.update a (Obj.mapSeq fun _ => #[])).get? a = some (seqObj "list" #[] e1) := ⟨_, get?_update_seq ho (fun _ => #[])⟩
  refine wpAny_bind (seqEpoch_at ho1 rfl ?_)
  refine wpAny_bind (wpAny_newTuple ?_)
  refine wpAny_bind (wpAny_newList ?_)
  refine wpAny_holding ?_
  have ho6 : (((s.heap.update a (Obj.mapSeq fun _ => #[])).push (seqObj "tuple" vs.toArray 0)).push (seqObj "list" #[] 0)).get? a = some (seqObj "list" #[] e1) := by
    rw [Heap.get?_push_ne _ _ _ (by rw [size_push', Heap.size_update]; exact Nat.ne_of_lt (Nat.lt_succ_of_lt ha)), Heap.get?_push_ne _ _ _ (by rw [Heap.size_update]; exact Nat.ne_of_lt ha)]
    exact ho1
  show wpAny (model prog w) A _ P E { s with heap := ((s.heap.update a (Obj.mapSeq fun _ => #[])).push (seqObj "tuple" vs.toArray 0)).push (seqObj "list" #[] 0) }
  dsimp only
  have hsz : vs.toArray.size = vs.length := by simp
  have fin : ∀ st' : SortSt, (arrOf st').Perm (pairsOf vs) → SortedTo (arrOf st') (pairsOf vs).size →
      P (.done (.ret .none)) { s with heap := sortedHeap s.heap a vs ((arrOf st').map (·.2)) } := by
    intro st' hp hs
    obtain ⟨ns', h1, h2, h3⟩ := sorted_out hI hp hs
    exact h _ ns' h1 h2 h3
  by_cases h2 : vs.toArray.size < 2
  · rw [if_pos h2, if_pos h2]
    refine wpAny_bind (wpAny_pure ?_)
    rw [StateT.run_pure]
    refine wpAny_bind (wpAny_pure ?_)
    dsimp only
    refine wpAny_bind (seqEpoch_at ho6 rfl ?_)
    refine wpAny_bind (listUpdate_at ho6 rfl ?_ (Nat.zero_le _) (by rw [Array.size_map]; show (pairsOf vs).size ≤ _; rw [pairsOf_size, sizeLine_eq]; omega))
    simp only [bne_self_eq_false, Bool.false_eq_true, if_false]
    refine wpAny_pure (fin (SortSt.mk' general' (vs.toArray.zip vs.toArray) #[] 7 none) (Array.Perm.refl _) ?_)
    intro i j hij hj
    have : i = j := by rw [pairsOf_size] at hj; omega
    subst this; exact Int.le_refl _
  · rw [if_neg h2, if_neg h2]
    obtain ⟨v₁, v₂, rest, rfl⟩ : ∃ v₁ v₂ rest, vs = v₁ :: v₂ :: rest := by
      match vs, hsz, h2 with
      | [], _, h2 => simp at h2
      | [_], _, h2 => simp at h2
      | v₁ :: v₂ :: rest, _, _ => exact ⟨v₁, v₂, rest, rfl⟩
    rw [keyKind_ints hI]
    refine wpAny_bind (wpAny_pure ?_)
    refine wpAny_bind (wpAny_mono (wpS_sortAll (a₀ := pairsOf (v₁ :: v₂ :: rest)) (st := SortSt.mk' oneType' ((v₁ :: v₂ :: rest).toArray.zip (v₁ :: v₂ :: rest).toArray) #[] 7 none)
      (Q := fun _ st' => (arrOf st').Perm (pairsOf (v₁ :: v₂ :: rest)) ∧ failedOf st' = none ∧ SortedTo (arrOf st') (pairsOf (v₁ :: v₂ :: rest)).size)
      (start_of hI hd) ⟨Array.Perm.refl _, rfl, rfl⟩ rfl (by rw [pairsOf_size]; simp) fun st' a1 a2 a3 => ⟨a1, a2, fun i j hij hj => a3 i j (Nat.zero_le _) hij hj⟩) ?_ fun _ _ e => e)
    rintro ⟨⟨⟩, st'⟩ s' ⟨rfl, hp, hf, hs⟩
    dsimp only
    refine wpAny_bind (seqEpoch_at ho6 rfl ?_)
    refine wpAny_bind (listUpdate_at ho6 rfl ?_ (Nat.zero_le _) (by refine Nat.le_trans (Nat.le_of_eq ((Array.size_map ..).trans (hp.size_eq.trans (pairsOf_size _)))) ?_; rw [sizeLine_eq]; omega))
    rw [hf]
    simp only [bne_self_eq_false, Bool.false_eq_true, if_false]
    exact wpAny_pure (fin st' hp hs)
theorem sorted_all {l : Addr} {vs : List Value} {ns : List Int} {Q : Value → Shared → Prop} (hl : s.heap.IsList l vs.toArray) (hI : IntsAre vs ns) (hd : ns.Nodup) (hz : vs.length ≤ 10000)
    (h : ∀ (out : Array Value) (ns' : List Int), IntsAre out.toList ns' → ns'.Perm ns → ns'.Pairwise (· ≤ ·) → Q (.ref (s.heap.objs.size + 1)) { s with heap := sortedAll s.heap vs out }) :
    wpAny (model prog w) A (call (.builtin "sorted") [.ref l]) Q E s := by
  refine Calls.call_function_entry kind_sorted plain_sorted entry_sorted (args_sorted1 _) ?_
  unfold Builtin.«sorted»
  refine wpAny_bind (m := checkCount "sorted" 1 1 _) (wpAny_pure ?_)
  refine wpAny_bind (collect_list hl ?_ (Nat.le_trans hz (by decide)))
  refine wpAny_bind (wpAny_newList ?_)
  have hsz : ((s.heap.push (seqObj "list" #[] 0)).update s.heap.objs.size (Obj.mapSeq (· ++ vs.toArray))).objs.size = s.heap.objs.size + 1 := by
    rw [Heap.size_update, size_push']
  have hoL : (((s.heap.push (seqObj "list" #[] 0)).update s.heap.objs.size (Obj.mapSeq (· ++ vs.toArray))).push (seqObj "list" vs.toArray 0)).get? (s.heap.objs.size + 1) = some (seqObj "list" vs.toArray 0) := by
    rw [← hsz]; exact Heap.get?_push_size _ rfl
  show wpAny _ _ _ _ _ { s with heap := ((s.heap.push (seqObj "list" #[] 0)).update s.heap.objs.size (Obj.mapSeq (· ++ vs.toArray))).push (seqObj "list" vs.toArray 0) }
  rw [hsz]
  refine wpAny_bind (wpAny_holding (wpAny_call_entry slot_list_sort ⟨_, hoL, rfl⟩ entry_list_sort (list_sort_all hoL hI hd hz fun out ns' a1 a2 a3 => ⟨_, rfl, ?_⟩) (args_list_sort _)))
  exact wpAny_pure ⟨_, rfl, h out ns' a1 a2 a3⟩
end
section
variable {c : Cx} {A : Around} {H : HL} {K : AV → HL → Prop}
theorem vl_ints {h : Heap} {D : List Addr} : ∀ {l : List Int} {vs : List Value}, VL h D (l.map .int) vs → IntsAre vs l
  | [], _, x => by cases x; exact .nil
  | n :: l, _, ⟨v, r, e, ⟨t, q⟩, y⟩ => by rw [e, q]; exact .cons n t (vl_ints y)
theorem ints_vl {h : Heap} {D : List Addr} : ∀ {l : List Int} {vs : List Value}, IntsAre vs l → VL h D (l.map .int) vs
  | _, _, .nil => rfl
  | _, _, .cons n t y => ⟨_, _, rfl, ⟨t, rfl⟩, ints_vl y⟩
theorem ac_sorted {l : List Int} (hd : l.Nodup) (hz : l.length ≤ 10000) (k : ∀ l' : List Int, l'.Perm l → l'.Pairwise (· ≤ ·) → K (.lst (l'.map .int)) H) : AC c A (.blt "sorted") [.lst (l.map .int)] H K := AC.of1 fun s fv a E Q I hf va P => by
  cases hf
  obtain ⟨x, us, n, rfl, _, e, hu⟩ := va
  refine sorted_all (lstO_is e) (vl_ints hu) hd (by rw [hu.length]; simpa using hz) fun out ns' a1 a2 a3 => ?_
  have g := I.grow (h' := sortedAll s.heap us out) (t := s.toks) fun b o e => sortedAll_old e
  obtain ⟨e', he⟩ := sortedAll_at s.heap us out
  refine P _ _ (.lst (ns'.map .int)) _ g.1 g.2 ⟨_, out.toList, e', rfl, fun m => ?_, he, ints_vl a1⟩ (k _ a2 a3)
  obtain ⟨p, hp, q⟩ := List.mem_map.mp m
  obtain ⟨o, q'⟩ := (I.ok p hp).here
  exact Nat.not_lt_of_le (Nat.le_succ _) (q ▸ Heap.lt_size q')
end
end Mine
end
section
open PySem PySem.W PySem.Calls PyProof.Rows
set_option Elab.async false
set_option maxRecDepth 100000
namespace Mine
noncomputable def putA (n : Str) (d : AV) (l : List (Str × AV)) : List (Str × AV) := if l.any (fun p => decide (p.1 = n)) then l.map (fun p => if p.1 = n then (p.1, d) else p) else l ++ [(n, d)]
section
variable {prog : Program} {w : World}
theorem hash_eq (x : Str) : (strKind prog w).hash x = PyData.keyHash w.params x := rfl
theorem entv_open {h : Heap} {D : List Addr} : ∀ {l : List (Str × AV)} {es : List DictEntry}, EntV w.params h D l es →
    ∃ kvs, Pairs (strKind prog w) es kvs ∧ (∀ e ∈ es, ∃ k, (strKind prog w).is k e.key = true ∧ e.hash = (strKind prog w).hash k) ∧ BindV h D l kvs ∧ kvs.map (·.1) = l.map (·.1)
  | [], _, x => by cases x; exact ⟨[], .nil, by simp, rfl, rfl⟩
  | (n, d) :: l, _, ⟨t, u, r, e, hv, x⟩ => by
    obtain ⟨kvs, p, q, b, m⟩ := entv_open x
    subst e
    refine ⟨(n, u) :: kvs, .cons (strKind_is prog w n t) rfl p, fun e he => ?_, ⟨u, kvs, rfl, hv, b⟩, by simp [m]⟩
    rcases List.mem_cons.mp he with rfl | he
    · exact ⟨n, strKind_is prog w n t, rfl⟩
    · exact q e he
theorem entv_shut {h : Heap} {D : List Addr} : ∀ {l : List (Str × AV)} {es : List DictEntry} {kvs : List (Str × Value)}, Pairs (strKind prog w) es kvs → (∀ e ∈ es, ∃ k, (strKind prog w).is k e.key = true ∧ e.hash = (strKind prog w).hash k) → BindV h D l kvs →
    EntV w.params h D l es
  | [], _, _, p, _, b => by cases b; cases p; rfl
  | (n, d) :: l, es, _, p, q, ⟨u, r, e, hv, b⟩ => by
    subst e
    cases p with
    | @cons e0 _ es0 _ h1 h2 p =>
      obtain ⟨t, ht⟩ := Value.isStrOf_shape h1
      obtain ⟨k, hk, hh⟩ := q e0 (.head _)
      have : k = n := (strKind prog w).inj _ _ _ hk h1
      subst this
      obtain ⟨hs, ky, vl⟩ := e0
      simp only at ht h2 hh
      subst ht h2 hh
      exact ⟨t, _, es0, rfl, hv, entv_shut p (fun e he => q e (.tail _ he)) b⟩
theorem dct_open {h : Heap} {D : List Addr} {a : Addr} {l : List (Str × AV)} (x : MOk w.params h D a (.dct l)) : ∃ kvs, h.DictOf (strKind prog w) a kvs ∧ BindV h D l kvs ∧ kvs.map (·.1) = l.map (·.1) := by
  obtain ⟨es, n, e, y, nd⟩ := x
  obtain ⟨kvs, p, q, b, m⟩ := entv_open (prog := prog) y
  exact ⟨kvs, ⟨_, es.toArray, n, e, ⟨rfl, rfl, rfl⟩, rfl, fun e he => q e (by simpa using he), p, m ▸ nd⟩, b, m⟩
theorem bindV_keys {h : Heap} {D : List Addr} : ∀ {l : List (Str × AV)} {kvs : List (Str × Value)}, BindV h D l kvs → kvs.map (·.1) = l.map (·.1)
  | [], _, b => by cases b; rfl
  | (_, _) :: _, _, ⟨_, _, e, _, b⟩ => by subst e; simp [bindV_keys b]
theorem dct_shut {h : Heap} {D : List Addr} {a : Addr} {l : List (Str × AV)} {kvs : List (Str × Value)} (d : h.DictOf (strKind prog w) a kvs) (b : BindV h D l kvs) : MOk w.params h D a (.dct l) := by
  obtain ⟨o, es, ep, ho, ⟨c1, c2, c3⟩, hd, hk, p, nd⟩ := d
  refine ⟨es.toList, ep, ?_, entv_shut p (fun e he => hk e (by simpa using he)) b, bindV_keys b ▸ nd⟩
  rw [ho]
  obtain ⟨oc, od, oda, osl⟩ := o
  simp only at c1 c2 c3 hd
  subst c1 c2 c3 hd
  simp
theorem bindV_lookup {h : Heap} {D : List Addr} : ∀ {l : List (Str × AV)} {kvs : List (Str × Value)} (n : Str), BindV h D l kvs → OptV h D (l.lookup n) (valueAt kvs n)
  | [], _, _, b => by cases b; rfl
  | (x, d) :: l, _, n, ⟨u, r, e, hv, b⟩ => by
    subst e
    have ih := bindV_lookup n b
    rw [List.lookup_cons]
    unfold valueAt at ih ⊢
    rw [List.find?_cons]
    by_cases q : n = x
    · subst q
      simp only [beq_self_eq_true, decide_true, Option.map_some]
      exact ⟨u, rfl, hv⟩
    · have q1 : (n == x) = false := beq_eq_false_iff_ne.mpr q
      have q2 : decide (x = n) = false := decide_eq_false fun e => q e.symm
      simp only [q1, q2]
      exact ih
theorem bindV_any {h : Heap} {D : List Addr} (n : Str) : ∀ {l : List (Str × AV)} {kvs : List (Str × Value)}, BindV h D l kvs → (kvs.any fun kv => decide (kv.1 = n)) = l.any fun p => decide (p.1 = n)
  | [], _, b => by cases b; rfl
  | (_, _) :: _, _, ⟨_, _, e, _, b⟩ => by subst e; simp [bindV_any n b]
theorem bindV_map {h : Heap} {D : List Addr} {n : Str} {d : AV} {v : Value} (hv : V h D d v) : ∀ {l : List (Str × AV)} {kvs : List (Str × Value)}, BindV h D l kvs →
    BindV h D (l.map fun p => if p.1 = n then (p.1, d) else p) (kvs.map fun kv => if kv.1 = n then (kv.1, v) else kv)
  | [], _, b => by cases b; rfl
  | (x, e) :: _, _, ⟨u, r, q, hu, b⟩ => by
    subst q
    by_cases c : x = n
    · simp only [List.map_cons, c, if_true]
      exact ⟨v, _, rfl, hv, bindV_map hv b⟩
    · simp only [List.map_cons, c, if_false]
      exact ⟨u, _, rfl, hu, bindV_map hv b⟩
theorem bindV_snoc {h : Heap} {D : List Addr} {n : Str} {d : AV} {v : Value} (hv : V h D d v) : ∀ {l : List (Str × AV)} {kvs : List (Str × Value)}, BindV h D l kvs → BindV h D (l ++ [(n, d)]) (kvs ++ [(n, v)])
  | [], _, b => by cases b; exact ⟨v, [], rfl, hv, rfl⟩
  | (_, _) :: _, _, ⟨u, r, q, hu, b⟩ => by subst q; exact ⟨u, _, rfl, hu, bindV_snoc hv b⟩
theorem bindV_stored {h : Heap} {D : List Addr} {n : Str} {d : AV} {v : Value} (hv : V h D d v) {l : List (Str × AV)} {kvs : List (Str × Value)} (b : BindV h D l kvs) : BindV h D (putA n d l) (stored kvs n v) := by
  unfold putA stored
  rw [bindV_any n b]
  split
  · exact bindV_map hv b
  · exact bindV_snoc hv b
theorem bindV_length {h : Heap} {D : List Addr} : ∀ {l : List (Str × AV)} {kvs : List (Str × Value)}, BindV h D l kvs → kvs.length = l.length
  | [], _, b => by cases b; rfl
  | (_, _) :: _, _, ⟨_, _, e, _, b⟩ => by subst e; simp [bindV_length b]
theorem bindV_append {h : Heap} {D : List Addr} : ∀ {l m : List (Str × AV)} {k j : List (Str × Value)}, BindV h D l k → BindV h D m j → BindV h D (l ++ m) (k ++ j)
  | [], _, _, _, b, b' => by cases b; exact b'
  | (_, _) :: _, _, _, _, ⟨u, r, q, hu, b⟩, b' => by subst q; exact ⟨u, _, rfl, hu, bindV_append b b'⟩
end
section
variable {c : Cx} {A : Around} {env : Env} {H : HL} {K : AV → HL → Prop}
theorem Inv.notMod {s : Shared} (I : Inv c H s) {a : Addr} {m : MO} (hm : (a, m) ∈ H) : (a == sysModules) = false := by
  have := I.low _ hm
  exact beq_eq_false_iff_ne.mpr fun e => Nat.lt_irrefl _ (e ▸ this)
theorem oc_din {a : Addr} {l : List (Str × AV)} {x : Str} (hm : (a, MO.dct l) ∈ H) (k : K (.bool (l.lookup x).isSome) H) : OCm c A .In (.str x) (.adr a) H K := TVs.of2 fun s _ _ _ _ I va vb P => by
  obtain ⟨t, rfl⟩ := va
  cases vb
  obtain ⟨kvs, d, b, _⟩ := dct_open (prog := c.prog) (I.ok _ hm)
  refine wpAny_in_of (strKind_is c.prog c.w x t) (I.notMod hm) d.mapOf ?_
  have := bindV_lookup x b
  have e : (valueAt kvs x).isSome = (l.lookup x).isSome := by
    cases hl : l.lookup x with
    | none => rw [hl] at this; rw [this]; rfl
    | some d => rw [hl] at this; obtain ⟨u, e, _⟩ := this; rw [e]; rfl
  rw [e]
  exact P.tok (d := .bool _) I rfl k
theorem oc_dnin {a : Addr} {l : List (Str × AV)} {x : Str} (hm : (a, MO.dct l) ∈ H) (k : K (.bool (!(l.lookup x).isSome)) H) : OCm c A .NotIn (.str x) (.adr a) H K := TVs.of2 fun s _ _ _ _ I va vb P => by
  obtain ⟨t, rfl⟩ := va
  cases vb
  obtain ⟨kvs, d, b, _⟩ := dct_open (prog := c.prog) (I.ok _ hm)
  refine wpAny_notIn_of (strKind_is c.prog c.w x t) (I.notMod hm) d.mapOf ?_
  have := bindV_lookup x b
  have e : (valueAt kvs x).isSome = (l.lookup x).isSome := by
    cases hl : l.lookup x with
    | none => rw [hl] at this; rw [this]; rfl
    | some d => rw [hl] at this; obtain ⟨u, e, _⟩ := this; rw [e]; rfl
  rw [e]
  exact P.tok (d := .bool _) I rfl k
theorem os_dct {value slice : Expr} {a : Addr} {l : List (Str × AV)} {x : Str} {d : AV} (hm : (a, MO.dct l) ∈ H) (hl : l.lookup x = some d) (k : K d H)
    (hs : ∀ t u, subscripted slice false (.ref t) (.str x u) = operate [.ref t, .str x u] (getItem (.ref t) (.str x u)) := by intros; with_unfolding_all rfl) : OSub c A value slice (.adr a) (.str x) H K := TVs.of2 fun s _ _ _ _ I va vb P => by
  cases va
  obtain ⟨t, rfl⟩ := vb
  obtain ⟨kvs, dd, b, _⟩ := dct_open (prog := c.prog) (I.ok _ hm)
  have := bindV_lookup x b
  rw [hl] at this
  obtain ⟨u, e, hv⟩ := this
  exact tail_any dd.typeIs slot_dict_getitem.lookup (wpAny_getItem_of (strKind_is c.prog c.w x t) dd.mapOf e (P.tok I hv k)) (hs _ _)
theorem ac_get {a : Addr} {l : List (Str × AV)} {x : Str} (hm : (a, MO.dct l) ∈ H) (k : K ((l.lookup x).getD .none) H) : AC c A (.blt "dict.get") [.adr a, .str x] H K := AC.of2 fun s fv av xv E Q I hf va vb P => by
  cases hf; cases va
  obtain ⟨t, rfl⟩ := vb
  obtain ⟨kvs, dd, b, _⟩ := dct_open (prog := c.prog) (I.ok _ hm)
  have := bindV_lookup x b
  refine call_meetsIn PySem.F.slot_dict_get dd.typeIs PySem.F.entry_dict_get (PySem.F.args_dict_get_2 _ _) (meets_dict_get _ a (strKind_is c.prog c.w x t) (I.notMod hm)) ⟨_, dd.mapOf, ?_⟩
  cases hl : l.lookup x with
  | none =>
    rw [hl] at this k
    rw [this]
    exact P.tok (d := .none) I rfl k
  | some d =>
    rw [hl] at this k
    obtain ⟨u, e, hv⟩ := this
    rw [e]
    exact P.tok I hv k
theorem upd_step {pre post : HL} {a : Addr} {m m' : MO} {h h' : Heap} (hs : Heap.SameBut a h h') : Step (dom (pre ++ (a, m) :: post)) h (dom (pre ++ (a, m) :: post)) h' :=
  ⟨fun b o hb e => (hs.2 b fun q => hb (by rw [q]; simp [dom])).trans e, fun _ m => .inl m⟩
noncomputable abbrev SkC (d : AV) (od : AV) (Kn : HL → Prop) : AV → HL → Prop := fun id H₃ => ∃ a l x pre post, od = .adr a ∧ id = .str x ∧ H₃ = pre ++ (a, .dct l) :: post ∧ l.length ≤ 1000 ∧ Kn (pre ++ (a, .dct (putA x d l)) :: post)
noncomputable abbrev SkB (c : Cx) (A : Around) (env : Env) (i : Expr) (d : AV) (Kn : HL → Prop) : AV → HL → Prop := fun od H₂ => AE c A env i H₂ (SkC d od Kn)
noncomputable abbrev SkA (c : Cx) (A : Around) (env : Env) (o i : Expr) (Kn : HL → Prop) : AV → HL → Prop := fun d H₁ => AE c A env o H₁ (SkB c A env i d Kn)
/-- d[x] = v -/
theorem s_setkey {o i : Expr} {p pos : Pos} {e : Expr} {Kn : HL → Prop} {Kr : AV → HL → Prop}
    (h : AE c A env e H (SkA c A env o i Kn))
    (hs : swapsWith e (some (.Subscript o i p)) pos.line env = pure false := by with_unfolding_all rfl) : AS c A env (.Assign [.Subscript o i p] e pos) H Kn Kr := by
  intro s E Q I P _
  refine wpAny_Assign_Subscript (h s E _ I fun s₁ v d H₁ I₁ S₁ hv k₁ => k₁ s₁ E _ I₁ fun s₂ ov od H₂ I₂ S₂ ho k₂ => k₂ s₂ E _ I₂ fun s₃ iv id H₃ I₃ S₃ hi k₃ => ?_) hs
  obtain ⟨a, l, x, pre, post, rfl, rfl, rfl, hz, kn⟩ := k₃
  cases ho
  obtain ⟨t, rfl⟩ := hi
  obtain ⟨kvs, dd, b, _⟩ := dct_open (prog := c.prog) (I₃.ok (a, .dct l) (List.mem_append_right _ (.head _)))
  refine wpAny_setItem_pairs (hsz := by rw [bindV_length b]; exact Nat.le_trans hz (by decide)) (strKind_is c.prog c.w x t) dd fun h' hd' hsb => ?_
  have S := upd_step (pre := pre) (post := post) (m := .dct l) (m' := .dct l) hsb
  have g := I₃.upd (h' := h') (t := s₃.toks + 1) (m' := .dct (putA x d l)) hsb (dct_shut hd' (bindV_stored (V.step S _ _ (V.step (S₂.trans S₃) _ _ hv)) (b.step S)))
  exact P _ _ g.1 (((S₁.trans S₂).trans S₃).trans g.2) kn
/-- a.update(b), keys that are new -/
theorem ac_update {a b : Addr} {l m : List (Str × AV)} {pre post : HL} (hb : (b, MO.dct m) ∈ pre ++ (a, MO.dct l) :: post) (hab : a ≠ b) (nd : ((l ++ m).map (·.1)).Nodup) (hz : l.length + m.length ≤ 1000)
    (k : K .none (pre ++ (a, .dct (l ++ m)) :: post)) : AC c A (.blt "dict.update") [.adr a, .adr b] (pre ++ (a, .dct l) :: post) K := AC.of2 fun s fv av bv E Q I hf va vb P => by
  cases hf; cases va; cases vb
  have ha : (a, MO.dct l) ∈ pre ++ (a, MO.dct l) :: post := List.mem_append_right _ (.head _)
  obtain ⟨ka, da, ba, ma⟩ := dct_open (prog := c.prog) (I.ok _ ha)
  obtain ⟨kb, db, bb, mb⟩ := dct_open (prog := c.prog) (I.ok _ hb)
  refine call_meetsIn PySem.F.slot_dict_update da.typeIs PySem.F.entry_dict_update (PySem.F.args_dict_update_2 _ _) (meets_dict_update _ a b hab (I.notMod hb)) ⟨ka, kb, da, db, ?_, fun h' hd' _ hsb => ?_⟩
  · rw [bindV_length ba, bindV_length bb]; exact Nat.le_trans hz (by decide)
  · have S := upd_step (pre := pre) (post := post) (m := .dct l) (m' := .dct l) hsb
    rw [merged_append_of_fresh _ _ (by rw [List.map_append, ma, mb, ← List.map_append]; exact nd)] at hd'
    have g := I.upd (h' := h') (t := s.toks) (m' := .dct (l ++ m)) hsb (dct_shut hd' (bindV_append (ba.step S) (bb.step S)))
    exact P _ _ .none _ g.1 g.2 rfl k
/-- dict(d) -/
theorem ac_dict {a : Addr} {l : List (Str × AV)} (hm : (a, MO.dct l) ∈ H) (hz : l.length ≤ 1000) (k : ∀ b, K (.adr b) ((b, .dct l) :: H)) : AC c A (.typ "dict") [.adr a] H K := AC.of1 fun s fv av E Q I hf va P => by
  cases hf; cases va
  obtain ⟨kvs, dd, b, _⟩ := dct_open (prog := c.prog) (I.ok _ hm)
  refine kt_call_dict (I.notMod hm) dd (by rw [bindV_length b]; exact Nat.le_trans hz (by decide)) fun h' hd' hsb => ?_
  have keep : ∀ b o, s.heap.get? b = some o → h'.get? b = some o := fun b o e => (hsb.2 b (Nat.ne_of_lt (Heap.lt_size e))).trans (Heap.get?_push_of_some _ e)
  have S : Step (dom H) s.heap (s.heap.objs.size :: dom H) h' := ⟨fun b o _ e => keep b o e, fun b m => by
    rcases List.mem_cons.mp m with rfl | m
    · exact .inr Inv.none_size
    · exact .inl m⟩
  have g := I.push (h' := h') (t := s.toks) (a := s.heap.objs.size) (m := .dct l) keep Inv.none_size (dct_shut hd' (b.step S))
  exact P _ _ (.adr s.heap.objs.size) _ g.1 g.2 rfl (k _)
theorem lookup_nd : ∀ {l : List (Str × AV)} {n : Str} {d : AV}, (l.map (·.1)).Nodup → (n, d) ∈ l → l.lookup n = some d
  | (x, e) :: l, n, d, nd, m => by
    rw [List.map_cons, List.nodup_cons] at nd
    rw [List.lookup_cons]
    rcases List.mem_cons.mp m with q | m
    · cases q; simp
    · have : n ≠ x := fun e => nd.1 (e ▸ List.mem_map.mpr ⟨(n, d), m, rfl⟩)
      have q : (n == x) = false := beq_eq_false_iff_ne.mpr this
      simp only [q]
      exact lookup_nd nd.2 m
/-- two dicts of ints, alike -/
theorem hits_self {s : Shared} {D : List Addr} : ∀ {l : List (Str × AV)} {kb : List (Str × Value)} {r : List (Str × AV)} {ka : List (Str × Value)}, BindV s.heap D l kb → BindV s.heap D r ka → (∀ p ∈ l, ∃ i, p.2 = .int i) → (l.map (·.1)).Nodup → (∀ p ∈ r, p ∈ l) → KeqHits A s kb ka true
  | _, _, [], _, _, br, _, _, _ => by cases br; exact .nil
  | l, kb, (n, d) :: r, _, bl, ⟨v, ka, e, hv, br⟩, hi, nd, hs => by
    subst e
    obtain ⟨i, e⟩ := hi (n, d) (hs _ (.head _))
    simp only at e
    subst e
    have lk : l.lookup n = some (.int i) := lookup_nd nd (hs _ (.head _))
    have := bindV_lookup n bl
    rw [lk] at this
    obtain ⟨u, e, hu⟩ := this
    obtain ⟨t, rfl⟩ := hv
    obtain ⟨t', rfl⟩ := hu
    have eq := keq_flat (A := A) (s := s) (PyProof.V.Flat.int i t) (PyProof.V.Flat.int i t')
    have : PyData.eqv (.int i) (.int i) = true := by simp [PyData.eqv]
    rw [this] at eq
    exact .hit e eq (hits_self bl br hi nd fun p hp => hs p (.tail _ hp))
theorem oc_deq {a b : Addr} {l : List (Str × AV)} (ha : (a, MO.dct l) ∈ H) (hb : (b, MO.dct l) ∈ H) (hi : ∀ p ∈ l, ∃ i, p.2 = .int i) (hu : A.units < 9900) (k : K (.bool true) H) : OCm c A .Eq (.adr a) (.adr b) H K := TVs.of2 fun s _ _ _ _ I va vb P => by
  cases va; cases vb
  have nd : (l.map (·.1)).Nodup := by obtain ⟨_, _, _, _, nd⟩ := I.ok _ ha; exact nd
  obtain ⟨ka, da, ba, ma⟩ := dct_open (prog := c.prog) (I.ok _ ha)
  obtain ⟨kb, db, bb, mb⟩ := dct_open (prog := c.prog) (I.ok _ hb)
  refine keq_eq (r := true) (I.notMod ha) (I.notMod hb) da db hu (fun _ => hits_self bb ba hi nd fun _ h => h) ?_
  rw [bindV_length ba, bindV_length bb]
  simp only [beq_self_eq_true, Bool.and_true]
  exact P.here (d := .bool _) I rfl k
end
end Mine
end
section
open PySem PySem.W PySem.Calls PyProof.Rows
set_option Elab.async false
set_option maxRecDepth 100000
namespace Mine
section
variable {c : Cx} {A : Around} {env : Env} {H : HL} {K : AV → HL → Prop}
theorem new_step {s : Shared} {h' : Heap} (k : ∀ b o, s.heap.get? b = some o → h'.get? b = some o) : Step (dom H) s.heap (s.heap.objs.size :: dom H) h' := ⟨fun b o _ e => k b o e, fun b m => by
    rcases List.mem_cons.mp m with rfl | m
    · exact .inr Inv.none_size
    · exact .inl m⟩
theorem Inv.newDct {s : Shared} (I : Inv c H s) : Inv c ((s.heap.objs.size, .dct []) :: H) { s with heap := s.heap.push { cls := .type "dict", data := .dict #[] } } ∧ Step (dom H) s.heap (s.heap.objs.size :: dom H) (s.heap.push { cls := .type "dict", data := .dict #[] }) :=
  I.push (h' := s.heap.push { cls := .type "dict", data := .dict #[] }) (t := s.toks) (a := s.heap.objs.size) (m := .dct []) (fun b o e => Heap.get?_push_of_some _ e) Inv.none_size ⟨[], 0, Heap.get?_push_size _ rfl, rfl, List.nodup_nil⟩
theorem e_dict0 {pos : Pos} (k : ∀ a, K (.adr a) ((a, .dct []) :: H)) : AE c A env (.Dict [] [] pos) H K := by
  intro s E Q I P
  refine wpAny_Dict_empty ?_
  have g := I.newDct
  exact P _ _ (.adr s.heap.objs.size) _ g.1 g.2 rfl (k _)
/-- pairs of a display; keys are strs -/
noncomputable def PairV (h : Heap) (D : List Addr) : List (Str × AV) → List (Value × Value) → Prop
  | [], vs => vs = []
  | (x, d) :: l, vs => ∃ t u r, vs = (.str x t, u) :: r ∧ V h D d u ∧ PairV h D l r
theorem PairV.step {h h' : Heap} {D D' : List Addr} (S : Step D h D' h') : ∀ {l : List (Str × AV)} {vs : List (Value × Value)}, PairV h D l vs → PairV h' D' l vs
  | [], _, e => e
  | (_, d) :: _, _, ⟨t, u, r, e, y, z⟩ => ⟨t, u, r, e, V.step S d u y, z.step S⟩
theorem PairV.carries {h : Heap} {D : List Addr} : ∀ {l : List (Str × AV)} {vs : List (Value × Value)}, PairV h D l vs → ∃ kvs, Carries (strKind c.prog c.w) vs kvs ∧ BindV h D l kvs
  | [], _, e => by cases e; exact ⟨[], trivial, rfl⟩
  | (x, d) :: _, _, ⟨t, u, r, e, y, z⟩ => by
    obtain ⟨kvs, h1, h2⟩ := z.carries
    subst e
    exact ⟨(x, u) :: kvs, ⟨strKind_is c.prog c.w x t, rfl, h1⟩, u, kvs, rfl, y, h2⟩
noncomputable def AP (c : Cx) (A : Around) (t : List (Sem Value × Sem Value)) (H : HL) (K : List (Str × AV) → HL → Prop) : Prop :=
  ∀ s E (Q : List (Value × Value) → Shared → Prop), Inv c H s → (∀ s' vs l H', Inv c H' s' → Step (dom H) s.heap (dom H') s'.heap → PairV s'.heap (dom H') l vs → K l H' → Q vs s') → wpAny c.M A (evalPairs t) Q E s
theorem ap_nil {K : List (Str × AV) → HL → Prop} (k : K [] H) : AP c A [] H K := fun s E Q I P => evalPairs_nil (P s [] [] H I (.refl _ _) rfl k)
theorem ap_cons {K : List (Str × AV) → HL → Prop} {kt vt : Sem Value} {pos : Pos} {r : List (Sem Value × Sem Value)} (h : TV c A kt H fun d H₁ => ∃ x, d = .str x ∧ TV c A vt H₁ fun d' H₂ => AP c A r H₂ fun l H₃ => K ((x, d') :: l) H₃) :
    AP c A ((kt, do let x ← vt; standAt pos; pure x) :: r) H K := by
  intro s E Q I P
  refine evalPairs_cons (h s E _ I fun s₁ kv d H₁ I₁ S₁ hk k₁ => ?_)
  obtain ⟨x, rfl, k₁⟩ := k₁
  obtain ⟨t, rfl⟩ := hk
  refine wpAny_bind (k₁ s₁ E _ I₁ fun s₂ vv d' H₂ I₂ S₂ hv k₂ => wpAny_bind (wpAny_standAt (wpAny_pure ?_)))
  refine k₂ s₂ E _ I₂ fun s₃ vs l H₃ I₃ S₃ hp k₃ => ?_
  exact P s₃ _ ((x, d') :: l) H₃ I₃ ((S₁.trans S₂).trans S₃) ⟨t, vv, vs, rfl, V.step S₃ _ _ hv, hp⟩ k₃
theorem e_dictS {keys : List (Option Expr)} {values : List Expr} {pos : Pos} {pairs : List (Sem Value × Sem Value)}
    (hshape : (evalEachOpt keys env).zip ((evalEach values env).map fun v => do let x ← v; standAt pos; pure x) = pairs.map fun p => (some p.1, p.2)) (h0 : pairs ≠ []) (hlen : pairs.length ≤ 15)
    (h : ∀ a, AP c A pairs ((a, .dct []) :: H) fun l H₁ => (l.map (·.1)).Nodup ∧ ∃ H₂, H₁ = (a, .dct []) :: H₂ ∧ K (.adr a) ((a, .dct l) :: H₂)) : AE c A env (.Dict keys values pos) H K := by
  intro s E Q I P
  refine wpAny_Dict_pairs (knd := strKind c.prog c.w) hshape h0 hlen ?_
  have g := I.newDct
  refine h _ _ _ _ g.1 fun s₁ vs l H₁ I₁ S₁ hp k₁ => ?_
  obtain ⟨nd, H₂, rfl, k₁⟩ := k₁
  obtain ⟨kvs, hc, hb⟩ := hp.carries (c := c)
  obtain ⟨kv0, d0, b0, _⟩ := dct_open (prog := c.prog) (I₁.ok _ (.head _))
  cases b0
  refine ⟨kvs, hc, d0, fun h' hd' hs => ?_⟩
  rw [merged_nil_of_nodup _ (bindV_keys hb ▸ nd)] at hd'
  have S := upd_step (pre := []) (post := H₂) (m := .dct []) (m' := .dct []) hs
  have gg := Inv.upd (pre := []) I₁ (h' := h') (t := s₁.toks + vs.length) (m' := .dct l) hs (dct_shut hd' (hb.step S))
  exact P _ _ (.adr s.heap.objs.size) _ gg.1 ((g.2.trans S₁).trans gg.2) rfl k₁
theorem e_dict1 {k1 v1 : Expr} {pos : Pos} (h : ∀ a, AP c A [(eval k1 env, do let x ← eval v1 env; standAt pos; pure x)] ((a, .dct []) :: H) fun l H₁ => (l.map (·.1)).Nodup ∧ ∃ H₂, H₁ = (a, .dct []) :: H₂ ∧ K (.adr a) ((a, .dct l) :: H₂)) :
    AE c A env (.Dict [some k1] [v1] pos) H K := e_dictS rfl (by simp) (by simp) h
theorem e_dict3 {k1 v1 k2 v2 k3 v3 : Expr} {pos : Pos} (h : ∀ a, AP c A [(eval k1 env, do let x ← eval v1 env; standAt pos; pure x), (eval k2 env, do let x ← eval v2 env; standAt pos; pure x), (eval k3 env, do let x ← eval v3 env; standAt pos; pure x)] ((a, .dct []) :: H) fun l H₁ => (l.map (·.1)).Nodup ∧ ∃ H₂, H₁ = (a, .dct []) :: H₂ ∧ K (.adr a) ((a, .dct l) :: H₂)) :
    AE c A env (.Dict [some k1, some k2, some k3] [v1, v2, v3] pos) H K := e_dictS rfl (by simp) (by simp) h

/-! the dict of spots: one key, (0, 0) -/
noncomputable abbrev TK (c : Cx) := tupleKind (intKind c.prog c.w)
theorem isKey {h : Heap} {D : List Addr} {t : Addr} (x : V h D (.tup [.int 0, .int 0]) (.ref t)) : (TK c).is h [0, 0] t := by
  obtain ⟨a, vs, n, e, _, ho, ⟨v1, _, rfl, ⟨t1, rfl⟩, v2, _, rfl, ⟨t2, rfl⟩, rfl⟩⟩ := x
  cases e
  exact ⟨_, _, _, ho, rfl, rfl, .cons (intKind_is c.prog c.w 0 t1) (.cons (intKind_is c.prog c.w 0 t2) .nil)⟩
theorem spHash_eq : (TK c).hash [0, 0] = spHash := by
  have e : (TK c).hash = tupleKeyHash (intKind c.prog c.w) := rfl
  have e2 : (intKind c.prog c.w).hash = hashInt := rfl
  rw [e]
  unfold spHash tupleKeyHash
  rw [e2, List.map_cons, List.map_cons, List.map_nil]
theorem spt_shut {h : Heap} {D : List Addr} {a t : Addr} {u : Tok} (d : h.DictOfH (TK c) a [([0, 0], t, .int 5 u)]) (ht : t ∉ D) (x : V h D (.tup [.int 0, .int 0]) (.ref t)) : MOk c.w.params h D a .spt := by
  obtain ⟨o, es, ep, ho, ⟨c1, c2, c3⟩, hd, he, _, _⟩ := d
  obtain ⟨a', vs, n, e, _, ho', ⟨v1, _, rfl, ⟨t1, rfl⟩, v2, _, rfl, ⟨t2, rfl⟩, rfl⟩⟩ := x
  cases e
  refine ⟨t, ep, n, u, t1, t2, ?_, ho', ht⟩
  rw [ho]
  obtain ⟨oc, od, oda, osl⟩ := o
  simp only at c1 c2 c3 hd
  subst c1 c2 c3 hd
  have : es = [⟨spHash, .ref t, .int 5 u⟩].toArray := by
    apply Array.toList_inj.mp
    rw [he]
    simp only [List.map_cons, List.map_nil, entryOfKey, spHash_eq]
  rw [this]
theorem spt_open {h : Heap} {D : List Addr} {a : Addr} (x : MOk c.w.params h D a .spt) : ∃ t u, h.DictOfH (TK c) a [([0, 0], t, .int 5 u)] ∧ t ∉ D ∧ V h D (.tup [.int 0, .int 0]) (.ref t) := by
  obtain ⟨t, n, m, u, u₁, u₂, e, ho, ht⟩ := x
  have hv : V h D (.tup [.int 0, .int 0]) (.ref t) := ⟨t, _, m, rfl, ht, ho, ⟨_, _, rfl, ⟨u₁, rfl⟩, _, _, rfl, ⟨u₂, rfl⟩, rfl⟩⟩
  refine ⟨t, u, ⟨_, _, n, e, ⟨rfl, rfl, rfl⟩, rfl, by simp only [List.map_cons, List.map_nil, entryOfKey, spHash_eq], fun x hx => ?_, by simp⟩, ht, hv⟩
  simp only [List.mem_singleton] at hx
  subst hx
  exact isKey (c := c) hv
theorem dict1_tree {k1 v1 : Expr} {pos : Pos} : eval (.Dict [some k1] [v1] pos) env = (do standAt pos; let d ← subDict [(eval k1 env, do let x ← eval v1 env; standAt pos; pure x)]; pure (.ref d)) := by
  have hs : (evalEachOpt [some k1] env).zip ((evalEach [v1] env).map fun v => do let x ← v; standAt pos; pure x) = [(eval k1 env, do let x ← eval v1 env; standAt pos; pure x)].map (fun p => (some p.1, p.2)) := rfl
  rw [arm_eval_Dict]
  refine congrArg (fun z => standAt pos >>= fun _ => z) ?_
  exact (congrArg dictDisplay hs).trans (dictDisplay_pairs _ (by simp) (by simp))
theorem wpAny_dict1 {k1 v1 : Expr} {pos : Pos} {s : Shared} {E : Value → Shared → Prop} {Q : Value → Shared → Prop}
    (h : wpAny c.M A (eval k1 env) (fun kv s₁ => wpAny c.M A (eval v1 env) (fun vv s₂ => wpAny c.M A (dictSet s.heap.objs.size kv vv) (fun _ s₃ => Q (.ref s.heap.objs.size) s₃) E s₂) E s₁) E { s with heap := s.heap.push { cls := .type "dict", data := .dict #[] } }) :
    wpAny c.M A (eval (.Dict [some k1] [v1] pos) env) Q E s := by
  rw [dict1_tree]
  refine wpAny_bind (wpAny_standAt (wpAny_bind ?_))
  unfold subDict
  refine wpAny_bind (wpAny_alloc (wpAny_bind (wpAny_holding ?_)))
  rw [if_pos (by simp)]
  refine wpAny_bind (evalPairs_cons (wpAny_mono h (fun kv s₁ h₁ => wpAny_bind (wpAny_mono h₁ (fun vv s₂ h₂ => wpAny_bind (wpAny_standAt (wpAny_pure (evalPairs_nil ?_)))) fun _ _ x => x)) fun _ _ x => x))
  refine wpAny_holding (wpAny_bind ?_)
  rw [List.forIn_cons]
  refine wpAny_bind (wpAny_bind (wpAny_mono h₂ (fun _ s₃ h₃ => wpAny_pure ?_) fun _ _ x => x))
  dsimp only
  rw [List.forIn_nil]
  exact wpAny_pure (wpAny_pure (wpAny_pure (wpAny_pure h₃)))
theorem e_spots {k1 v1 : Expr} {pos : Pos} (hu : A.units < 9900)
    (h : ∀ a, TV c A (eval k1 env) ((a, .dct []) :: H) fun d H₁ => d = .tup [.int 0, .int 0] ∧ TV c A (eval v1 env) H₁ fun d' H₂ => d' = .int 5 ∧ ∃ H₃, H₂ = (a, .dct []) :: H₃ ∧ K (.adr a) ((a, .spt) :: H₃)) :
    AE c A env (.Dict [some k1] [v1] pos) H K := by
  intro s E Q I P
  have g := I.newDct
  refine wpAny_dict1 (h s.heap.objs.size _ E _ g.1 fun s₁ kv d H₁ I₁ S₁ hk k₁ => ?_)
  obtain ⟨rfl, k₁⟩ := k₁
  refine k₁ s₁ E _ I₁ fun s₂ vv d' H₂ I₂ S₂ hv k₂ => ?_
  obtain ⟨rfl, H₃, rfl, k₂⟩ := k₂
  obtain ⟨t5, rfl⟩ := hv
  have hk2 := V.step S₂ _ _ hk
  obtain ⟨ta, vs, n, rfl, hta, ho, hvs⟩ := id hk2
  obtain ⟨es, nn, e0, x0, _⟩ := I₂.ok _ (.head _)
  cases x0
  have d0 : s₂.heap.DictOfH (TK c) s.heap.objs.size [] := ⟨_, _, nn, e0, ⟨rfl, rfl, rfl⟩, rfl, rfl, fun _ hx => by simp at hx, List.nodup_nil⟩
  refine wpAny_dictSet_heap (knd := TK c) (xs := []) hu (isKey (c := c) hk2) d0 (fun h' hd' hsb => ?_) (Nat.zero_le _)
  have S := upd_step (pre := []) (post := H₃) (m := .dct []) (m' := .dct []) hsb
  have gg := Inv.upd (pre := []) I₂ (h' := h') (t := s₂.toks + (TK c).draws [0, 0]) (m' := .spt) hsb (spt_shut (c := c) (t := ta) (u := t5) hd' (S.off hta ho) (V.step S _ _ hk2))
  exact P _ _ (.adr s.heap.objs.size) _ gg.1 (((g.2.trans S₁).trans S₂).trans gg.2) rfl k₂
/-- dict(d) of the spots -/
theorem ac_dictP {a : Addr} (hm : (a, MO.spt) ∈ H) (k : ∀ b, K (.adr b) ((b, .spt) :: H)) : AC c A (.typ "dict") [.adr a] H K := AC.of1 fun s fv av E Q I hf va P => by
  cases hf; cases va
  have hoS := I.notMod hm
  obtain ⟨t, u, dd, ht, hv⟩ := spt_open (c := c) (I.ok _ hm)
  obtain ⟨o, es, ep, ho, hc, hd, he, his, hn⟩ := dd
  have hes : es = [⟨spHash, .ref t, .int 5 u⟩].toArray := by
    apply Array.toList_inj.mp
    rw [he]; simp only [List.map_cons, List.map_nil, entryOfKey, spHash_eq]
  have hT : s.TypeIs (.ref a) "dict" := ⟨o, ho, hc.1⟩
  have ho' : (s.heap.push { cls := .type "dict", data := .dict #[] }).get? a = some o := Heap.get?_push_of_some _ ho
  have hT' : ({ s with heap := s.heap.push { cls := .type "dict", data := .dict #[] } } : Shared).TypeIs (.ref a) "dict" := ⟨o, ho', hc.1⟩
  have hnew : (s.heap.push { cls := .type "dict", data := .dict #[] }).get? s.heap.objs.size = some { cls := .type "dict", data := .dict #[] } := Heap.get?_push_size _ rfl
  have hTn : ({ s with heap := s.heap.push { cls := .type "dict", data := .dict #[] } } : Shared).TypeIs (.ref s.heap.objs.size) "dict" := ⟨_, hnew, rfl⟩
  refine callType_codes (Q₁ := fun obj s₁ => obj = .ref s.heap.objs.size ∧ s₁ = { s with heap := s.heap.push { cls := .type "dict", data := .dict #[] } }) PySem.F.kt_called_dict (PySem.F.kt_typeCall_dict_1 _) PySem.F.entry_dict_init (kt_code_dict_new _ ⟨rfl, rfl⟩) ?_
  rintro obj s₁ ⟨rfl, rfl⟩
  have hdo : s.heap.objs.size ≠ a := fun e => absurd (Heap.lt_size ho) (by rw [e]; exact Nat.lt_irrefl _)
  refine ⟨hTn, PySem.F.args_dict_init_2 _ _, ?_⟩
  unfold Builtin.«dict.__init__»
  refine wpAny_bind ?_
  unfold Builtin.Dict.selfAndRest
  refine wpAny_bind (wpAny_notOrdered_dict hTn ?_)
  show wpAny _ _ (pure (s.heap.objs.size, [Value.ref a])) _ _ _
  refine wpAny_pure ?_
  show wpAny _ _ (Builtin.Dict.updateFrom "dict.__init__" s.heap.objs.size (.ref a) [] .none) _ _ _
  unfold Builtin.Dict.updateFrom
  refine wpAny_bind (wpAny_typeOf hT' ?_)
  rw [if_neg (by decide)]
  refine wpAny_bind ?_
  unfold Builtin.Dict.merge
  refine wpAny_bind ?_
  unfold Builtin.Dict.readDirectly
  refine wpAny_bind (wpAny_isInstance hT' isSubtype_dict_dict ?_)
  simp only [Bool.not_true, Bool.false_eq_true, if_false]
  refine wpAny_bind (wpAny_specialOf hT' PySem.F.slot_dict_iter.lookup (wpAny_pure ?_))
  simp only [beq_self_eq_true, if_true]
  refine wpAny_bind (wpAny_pure ?_)
  unfold Builtin.Dict.mergeDict
  rw [if_neg (by simpa using hdo)]
  unfold Builtin.Dict.showsAll
  rw [if_neg (by rw [hoS]; exact Bool.false_ne_true)]
  refine wpAny_bind (wpAny_pure ?_)
  refine wpAny_bind (wpAny_dictEntries ho' hd ?_)
  subst hes
  dsimp only
  rw [if_pos (by simp [keyPart])]
  refine wpAny_bind (wpAny_dictEntries hnew rfl ?_)
  rw [if_pos (by rfl)]
  obtain ⟨ta, vs, n, e, hta, hot, hvs⟩ := id hv
  cases e
  have hTt : ({ s with heap := s.heap.push { cls := .type "dict", data := .dict #[] } } : Shared).TypeIs (.ref t) "tuple" := ⟨_, Heap.get?_push_of_some _ hot, rfl⟩
  refine wpAny_bind ?_
  unfold Builtin.Dict.entriesForEmpty
  refine wpAny_bind (wpAny_dictEntries ho' hd ?_)
  rw [← Array.forIn_toList]
  show wpAny _ _ (forIn [_] _ _ >>= _) _ _ _
  rw [List.forIn_cons]
  refine wpAny_bind (wpAny_bind (wpAny_bind (wpAny_bind (wpAny_specialOf hTt PySem.F.slot_tuple_eq.lookup (wpAny_pure ?_)))))
  rw [if_pos (by rfl), if_neg (by simp)]
  refine wpAny_pure ?_
  dsimp only
  rw [List.forIn_nil]
  refine wpAny_pure (wpAny_pure ?_)
  rw [if_pos (by rfl)]
  refine wpAny_bind (wpAny_updateDictKeysTo hnew rfl (wpAny_pure ?_) (by rw [sizeLine_eq]; simp))
  show wpAny _ _ (Builtin.Dict.addKeywords s.heap.objs.size [] >>= _) _ _ _
  refine wpAny_bind (wpAny_pure (wpAny_pure ⟨rfl, ?_⟩))
  have gs := Heap.get?_update_self (h := s.heap.push { cls := .type "dict", data := .dict #[] }) (Obj.mapDictKeys fun _ => [⟨spHash, .ref t, .int 5 u⟩].toArray) hnew (Obj.isFreed_of_dict (Obj.data_mapDictKeys rfl _))
  have hsb := Heap.SameBut.update (s.heap.push { cls := .type "dict", data := .dict #[] }) s.heap.objs.size (Obj.mapDictKeys fun _ => [⟨spHash, .ref t, .int 5 u⟩].toArray)
  generalize (s.heap.push { cls := .type "dict", data := .dict #[] }).update s.heap.objs.size (Obj.mapDictKeys fun _ => [⟨spHash, .ref t, .int 5 u⟩].toArray) = h' at gs hsb ⊢
  have keep : ∀ b o, s.heap.get? b = some o → h'.get? b = some o := fun b o e => (hsb.2 b (Nat.ne_of_lt (Heap.lt_size e))).trans (Heap.get?_push_of_some _ e)
  have S := new_step (H := H) keep
  obtain ⟨v1, _, rfl, ⟨t1, rfl⟩, v2, _, rfl, ⟨t2, rfl⟩, rfl⟩ := hvs
  have g := I.push (h' := h') (t := s.toks) (a := s.heap.objs.size) (m := .spt) keep Inv.none_size ⟨t, _, n, u, t1, t2, gs, keep _ _ hot, S.off ht hot⟩
  exact P _ _ (.adr s.heap.objs.size) _ g.1 g.2 rfl (k _)
theorem oc_sne {a b : Addr} (ha : (a, MO.spt) ∈ H) (hb : (b, MO.spt) ∈ H) (hu : A.units < 9800) (k : K (.bool false) H) : OCm c A .NotEq (.adr a) (.adr b) H K := TVs.of2 fun s _ _ E Q I va vb P => by
  cases va; cases vb
  obtain ⟨t, u, ⟨o, es, ep, ho, hc, hd, he, his, hn⟩, ht, hv⟩ := spt_open (c := c) (I.ok _ ha)
  obtain ⟨t', u', ⟨o', es', ep', ho', hc', hd', he', his', hn'⟩, ht', hv'⟩ := spt_open (c := c) (I.ok _ hb)
  have hes : es = [⟨(TK c).hash [0, 0], .ref t, .int 5 u⟩].toArray := by
    apply Array.toList_inj.mp
    rw [he]; simp only [List.map_cons, List.map_nil, entryOfKey]
  have hes' : es' = [⟨(TK c).hash [0, 0], .ref t', .int 5 u'⟩].toArray := by
    apply Array.toList_inj.mp
    rw [he']; simp only [List.map_cons, List.map_nil, entryOfKey]
  subst hes hes'
  have hT : s.TypeIs (.ref a) "dict" := ⟨o, ho, hc.1⟩
  have hT' : s.TypeIs (.ref b) "dict" := ⟨o', ho', hc'.1⟩
  refine wpAny_richCompare_same_room (op := .NotEq) hT hT' PySem.F.slot_dict_ne (wpAny_call_entry PySem.F.slot_dict_ne hT PySem.F.entry_dict_ne ?_ (PySem.F.args_dict_ne_2 _ _)) (by show A.units < 9900; omega)
  show wpAny _ _ (Builtin.Dict.dictSlotArgs "__ne__" ⟨[.ref a, .ref b], []⟩ >>= _) _ _ s
  refine wpAny_bind ?_
  unfold Builtin.Dict.dictSlotArgs
  refine wpAny_bind (wpAny_notOrdered_dict hT ?_)
  show wpAny _ _ (pure (Value.ref a, Value.ref b)) _ _ s
  refine wpAny_pure ?_
  refine wpAny_bind (wpAny_isInstance (T := "dict") hT' PySem.F.sub_dict_dict ?_)
  simp only [Bool.not_true, Bool.false_eq_true, if_false]
  refine wpAny_bind (wpAny_pure (wpAny_bind (wpAny_pure ?_)))
  refine wpAny_bind ?_
  unfold Builtin.Dict.samePairs Builtin.Dict.showsAll
  rw [if_neg (by rw [I.notMod ha]; exact Bool.false_ne_true), if_neg (by rw [I.notMod hb]; exact Bool.false_ne_true)]
  refine wpAny_bind (wpAny_pure (wpAny_bind (wpAny_pure ?_)))
  refine wpAny_bind (wpAny_dictEntries ho hd ?_)
  dsimp only
  refine wpAny_bind (wpAny_dictEntries ho' hd' ?_)
  rw [if_neg (by simp)]
  refine wpAny_bind (wpAny_dictEpoch ho hd ?_)
  refine wpAny_bind ?_
  rw [Std.Legacy.Range.forIn_eq_forIn_range']
  simp only [Std.Legacy.Range.size, Nat.sub_zero, Nat.add_sub_cancel, Nat.div_one, List.size_toArray, List.length_cons, List.length_nil, Nat.zero_add, List.range'_one]
  rw [List.forIn_cons]
  refine wpAny_bind (wpAny_bind (wpAny_dictEntries ho hd ?_))
  show wpAny _ _ (holding _ (dictFind b (.ref t) ((TK c).hash [0, 0]) >>= _) >>= _) _ _ _
  refine wpAny_bind (wpAny_holding (wpAny_bind (wpAny_dictFind_heap (knd := TK c) (xs := [([0, 0], t', .int 5 u')]) (by show A.in1.units < cLine; show A.units + 1 < 9900; omega) (isKey (c := c) hv) ho' hd' he' his' hn' (fun h => absurd rfl (h 0 (t', .int 5 u'))) fun j p hj => ?_)))
  have : j = 0 := by
    cases j with
    | zero => rfl
    | succ j => simp at hj
  subst this
  dsimp only
  refine wpAny_bind (wpAny_dictEntries ho' hd' ?_)
  refine wpAny_holding (wpAny_eqBool_int ?_)
  simp only [beq_self_eq_true, Bool.not_true, Bool.false_eq_true, if_false]
  refine wpAny_bind (wpAny_dictEpoch ho hd ?_)
  rw [if_neg (by simp)]
  refine wpAny_pure ?_
  dsimp only
  rw [List.forIn_nil]
  refine wpAny_pure (wpAny_pure ?_)
  refine wpAny_pure ⟨_, rfl, ?_, ?_⟩
  · exact fun x => nomatch x
  · exact P.here (d := .bool _) I rfl k
end
end Mine
end
section
open PySem PySem.W PySem.Calls PyProof.Rows
set_option Elab.async false
set_option maxRecDepth 100000
namespace Mine
section
variable {c : Cx} {A : Around} {env : Env} {H : HL} {K : AV → HL → Prop}
theorem entv_getL {P : Params} {h : Heap} {D : List Addr} (n : Str) : ∀ {l : List (Str × AV)} {es : List DictEntry}, EntV P h D l es →
    (match l.lookup n with | some d => ∃ u, getL n es = some (some u) ∧ V h D d u | none => getL n es = some none) ∧ es.any (·.refKey) = false
  | [], _, e => by cases e; exact ⟨rfl, rfl⟩
  | (x, d) :: l, _, ⟨t, u, r, e, hv, hr⟩ => by
    subst e
    obtain ⟨ih, ia⟩ := entv_getL n hr
    have any : (⟨PyData.keyHash P x, .str x t, u⟩ :: r : List DictEntry).any (·.refKey) = false := by
      rw [List.any_cons, ia]; rfl
    refine ⟨?_, any⟩
    rw [List.lookup_cons]
    have is : (Value.str x t).isStr n = (x == n) := rfl
    by_cases q : n = x
    · subst q
      simp only [beq_self_eq_true]
      refine ⟨u, ?_, hv⟩
      unfold getL
      rw [List.find?_cons]
      simp only [is, beq_self_eq_true]
    · have q1 : (n == x) = false := beq_eq_false_iff_ne.mpr q
      have q2 : (x == n) = false := beq_eq_false_iff_ne.mpr fun e => q e.symm
      simp only [q1]
      have gl : getL n (⟨PyData.keyHash P x, .str x t, u⟩ :: r) = getL n r := by
        unfold getL
        rw [List.find?_cons]
        simp only [is, q2]
        rw [any, ia]
      rw [gl]
      exact ih
theorem entv_putL {P : Params} {h : Heap} {D : List Addr} {n : Str} {d : AV} {v : Value} {t : Tok} (hv : V h D d v) : ∀ {l : List (Str × AV)} {es : List DictEntry}, (l.map (·.1)).Nodup → EntV P h D l es →
    EntV P h D (putA n d l) (putL n (PyData.keyHash P n) (.str n t) v es)
  | [], _, _, e => by cases e; exact ⟨t, v, [], rfl, hv, rfl⟩
  | (x, e) :: l, _, nd, ⟨t', u, r, q, hu, hr⟩ => by
    subst q
    rw [List.map_cons, List.nodup_cons] at nd
    have ih := entv_putL (n := n) (d := d) (v := v) (t := t) hv nd.2 hr
    have is : (Value.str x t').isStr n = (x == n) := rfl
    by_cases q : x = n
    · subst q
      have e1 : putA x d ((x, e) :: l) = (x, d) :: l := by
        unfold putA
        rw [if_pos (by simp)]
        simp only [List.map_cons, if_true]
        congr 1
        refine (List.map_congr_left fun p hp => ?_).trans (List.map_id l)
        have : p.1 ≠ x := fun e => nd.1 (e ▸ List.mem_map.mpr ⟨p, hp, rfl⟩)
        simp [this]
      have e2 : putL x (PyData.keyHash P x) (.str x t) v (⟨PyData.keyHash P x, .str x t', u⟩ :: r) = ⟨PyData.keyHash P x, .str x t', v⟩ :: r := by
        simp only [putL, is, beq_self_eq_true, if_true]
      rw [e1, e2]
      exact ⟨t', v, r, rfl, hv, hr⟩
    · have q2 : (x == n) = false := beq_eq_false_iff_ne.mpr q
      have e1 : putA n d ((x, e) :: l) = (x, e) :: putA n d l := by
        unfold putA
        simp only [List.any_cons, q, decide_false, Bool.false_or, List.map_cons, if_false]
        split <;> rfl
      have e2 : putL n (PyData.keyHash P n) (.str n t) v (⟨PyData.keyHash P x, .str x t', u⟩ :: r) = ⟨PyData.keyHash P x, .str x t', u⟩ :: putL n (PyData.keyHash P n) (.str n t) v r := by
        simp only [putL, is, q2, Bool.false_eq_true, if_false]
      rw [e1, e2]
      exact ⟨t', u, _, rfl, hu, ih⟩
theorem putA_nodup {n : Str} {d : AV} {l : List (Str × AV)} (nd : (l.map (·.1)).Nodup) : ((putA n d l).map (·.1)).Nodup := by
  unfold putA
  split
  · have : (l.map fun p => if p.1 = n then (p.1, d) else p).map (·.1) = l.map (·.1) := by
      rw [List.map_map]
      refine List.map_congr_left fun p _ => ?_
      simp only [Function.comp]
      split <;> rfl
    rw [this]; exact nd
  · rename_i h
    rw [List.map_append, List.nodup_append]
    refine ⟨nd, by simp, fun a ha b hb e => ?_⟩
    subst e
    obtain ⟨p, hp, rfl⟩ := List.mem_map.mp ha
    simp only [List.map_cons, List.map_nil, List.mem_singleton] at hb
    exact h (List.any_eq_true.mpr ⟨p, hp, by simpa using hb⟩)
theorem putA_length {n : Str} {d : AV} {l : List (Str × AV)} : (putA n d l).length ≤ l.length + 1 := by
  unfold putA
  split <;> simp

noncomputable def handedAV : AV → Bool
  | .blt _ => false
  | .any => false
  | _ => true
theorem handed_av {h : Heap} {D : List Addr} {d : AV} {v : Value} (e : handedAV d = true) (hv : V h D d v) : handedIn v = true := by
  cases d with
  | any => cases e
  | none => cases hv; rfl
  | bool b' => cases hv; rfl
  | int i => obtain ⟨t, rfl⟩ := hv; rfl
  | str x => obtain ⟨t, rfl⟩ := hv; rfl
  | typ n => cases hv; rfl
  | blt n => cases e
  | adr a => cases hv; rfl
  | tup l => obtain ⟨a, vs, n, rfl, _⟩ := hv; rfl
  | lst l => obtain ⟨a, vs, n, rfl, _⟩ := hv; rfl
  | scr l => obtain ⟨a, vs, rfl, _⟩ := hv; rfl
  | obj C dx => obtain ⟨x, rfl, _⟩ := hv; rfl
  | mth f d => obtain ⟨x, u, rfl, _⟩ := hv; rfl
  | rng a b' => obtain ⟨x, t, u, w, rfl, _⟩ := hv; rfl

/-- what lies in an object's own dict may be read -/
structure AttrOk (K : Frag) (C : Addr) (name : Str) : Prop where
  get : plainGet K C name = true
  dict : hasDictIn K C = true
  cls : ∃ a, findIn K (.ref C) name = some a ∧ noGet K a = true
structure SetOk (K : Frag) (C : Addr) (name : Str) : Prop where
  set : findIn K (.ref C) "__setattr__" = some (some (.builtin "object.__setattr__"))
  plain : plainOver K C = true
  taker : takerIn K C name = some none
  dict : hasDictIn K C = true
structure MethOk (K : Frag) (C : Addr) (name : Str) (f : Addr) : Prop where
  get : plainGet K C name = true
  dict : hasDictIn K C = true
  find : findIn K (.ref C) name = some (some (.ref f))
  fn : isFn K (.ref f) = true
  fnIn : fnIn K f = true
  keep : keepIn K (.ref f) = true
  sget : specialIn K (.ref f) "__get__" = some (some (.builtin "function.__get__"))
  takes : takesIn K (.ref f) = some false
  copied : copiedNames.contains name = false

theorem inst_of {s : Shared} (I : Inv c H s) {C dx x : Addr} {l : List (Str × AV)} (hm : (dx, MO.dct l) ∈ H) (e : s.heap.get? x = some (instObj C dx)) :
    ∃ es n, InstAt s.heap x (instObj C dx) C (some (dictOf es n)) ∧ EntV c.w.params s.heap (dom H) l es ∧ s.heap.get? dx = some (dictOf es n) ∧ (l.map (·.1)).Nodup := by
  obtain ⟨es, n, ho, he, nd⟩ := I.ok _ hm
  exact ⟨es, n, ⟨e, rfl, rfl, ho⟩, he, ho, nd⟩
noncomputable abbrev AttK (c : Cx) (name : Str) (K : AV → HL → Prop) : AV → HL → Prop := fun d H₁ => ∃ C dx l e, d = .obj C dx ∧ (dx, MO.dct l) ∈ H₁ ∧ l.lookup name = some e ∧ handedAV e = true ∧ AttrOk c.K C name ∧ K e H₁
theorem attK {name : Str} {C dx : Addr} {l : List (Str × AV)} {e : AV} (hm : (dx, MO.dct l) ∈ H) (hl : l.lookup name = some e) (hh : handedAV e = true) (g : plainGet c.K C name = true) (dc : hasDictIn c.K C = true) (cl : findIn c.K (.ref C) name = some none) (k : K e H) : AttK c name K (.obj C dx) H :=
  ⟨C, dx, l, e, rfl, hm, hl, hh, ⟨g, dc, none, cl, rfl⟩, k⟩
theorem attK2 {name : Str} {C dx : Addr} {l : List (Str × AV)} {e : AV} (hm : (dx, MO.dct l) ∈ H) (hl : l.lookup name = some e) (hh : handedAV e = true) (ok : AttrOk c.K C name) (k : K e H) : AttK c name K (.obj C dx) H :=
  ⟨C, dx, l, e, rfl, hm, hl, hh, ok, k⟩
theorem e_attr {value : Expr} {name : Str} {pos : Pos} (h : AE c A env value H (AttK c name K))
    (hb : attributeBase value name env (eval value env) = eval value env := by with_unfolding_all rfl) : AE c A env (.Attribute value name pos) H K := by
  intro s E Q I P
  show wpAny _ _ (eval (.Attribute value name pos) env) _ _ _
  rw [arm_eval_Attribute, hb]
  refine wpAny_bind (h s E _ I fun s₁ v d H₁ I₁ S₁ hv k => wpAny_bind (wpAny_standAt (wpAny_bind (wpAny_holding ?_))))
  obtain ⟨C, dx, l, e, rfl, hm, hl, hh, ok, k⟩ := k
  obtain ⟨x, rfl, hx, ho⟩ := hv
  obtain ⟨es, n, IA, he, hd, nd⟩ := inst_of I₁ hm ho
  have g := (entv_getL name he).1
  rw [hl] at g
  obtain ⟨u, hu, hvu⟩ := g
  obtain ⟨a, ha, hn⟩ := ok.cls
  refine get_value I₁.X IA (plainGet_of ok.get).1 (findObj_own ok.dict ha hn (by rw [lookIn_dict]; exact hu)) (handed_av hh hvu) ?_
  refine wpAny_bind (wpAny_letTemporaryGo (wpAny_pure ?_))
  exact (P.behind S₁).tok I₁ hvu k
/-- self.f as a value -/
theorem e_bound {value : Expr} {name : Str} {pos : Pos} (h : AE c A env value H fun d H₁ => ∃ C dx l f, d = .obj C dx ∧ (dx, MO.dct l) ∈ H₁ ∧ l.lookup name = none ∧ MethOk c.K C name f ∧ K (.mth f (.obj C dx)) H₁)
    (hb : attributeBase value name env (eval value env) = eval value env := by with_unfolding_all rfl) : AE c A env (.Attribute value name pos) H K := by
  intro s E Q I P
  show wpAny _ _ (eval (.Attribute value name pos) env) _ _ _
  rw [arm_eval_Attribute, hb]
  refine wpAny_bind (h s E _ I fun s₁ v d H₁ I₁ S₁ hv k => wpAny_bind (wpAny_standAt (wpAny_bind (wpAny_holding ?_))))
  obtain ⟨C, dx, l, f, rfl, hm, hl, ok, k⟩ := k
  obtain ⟨x, rfl, hx, ho⟩ := id hv
  obtain ⟨es, n, IA, he, hd, nd⟩ := inst_of I₁ hm ho
  have g := (entv_getL name he).1
  rw [hl] at g
  refine get_bind I₁.X IA (plainGet_of ok.get).1 (findObj_fn ok.dict ok.find ok.sget ok.takes ok.copied (by rw [lookIn_dict]; exact g)) (plainGet_of ok.get).2 ?_
  refine wpAny_call (fn_get (s := { s₁ with toks := s₁.toks + 1 }) I₁.X (beq_iff_eq.mp ok.fn) (handed_on rfl ?_))
  refine wpAny_bind (wpAny_letTemporaryGo (wpAny_pure ?_))
  have gr := I₁.grow (h' := s₁.heap.push (methodObj (.ref f) (.ref x))) (t := s₁.toks + 1) fun b o e => Heap.get?_push_of_some _ e
  exact P _ _ (.mth f (.obj C dx)) _ gr.1 (S₁.trans gr.2) ⟨s₁.heap.objs.size, .ref x, rfl, I₁.new_off, Heap.get?_push_size _ rfl, V.step gr.2 (.obj C dx) (.ref x) hv⟩ k
noncomputable abbrev SaB (c : Cx) (name : Str) (d : AV) (Kn : HL → Prop) : AV → HL → Prop := fun od H₂ => ∃ C dx l pre post, od = .obj C dx ∧ H₂ = pre ++ (dx, .dct l) :: post ∧ l.length ≤ 900 ∧ SetOk c.K C name ∧ Kn (pre ++ (dx, .dct (putA name d l)) :: post)
noncomputable abbrev SaA (c : Cx) (A : Around) (env : Env) (o : Expr) (name : Str) (Kn : HL → Prop) : AV → HL → Prop := fun d H₁ => AE c A env o H₁ (SaB c name d Kn)
theorem saB {name : Str} {d : AV} {Kn : HL → Prop} {C dx : Addr} {H₂ : HL} (l : List (Str × AV)) (pre post : HL) (e : H₂ = pre ++ (dx, .dct l) :: post) (hz : l.length ≤ 900) (ok : SetOk c.K C name) (k : Kn (pre ++ (dx, .dct (putA name d l)) :: post)) : SaB c name d Kn (.obj C dx) H₂ :=
  ⟨C, dx, l, pre, post, rfl, e, hz, ok, k⟩
/-- self.x = v -/
theorem s_setattr {o : Expr} {name : Str} {p pos : Pos} {e : Expr} {Kn : HL → Prop} {Kr : AV → HL → Prop}
    (h : AE c A env e H (SaA c A env o name Kn))
    (hs : swapsWith e (some (.Attribute o name p)) pos.line env = pure false := by with_unfolding_all rfl) : AS c A env (.Assign [.Attribute o name p] e pos) H Kn Kr := by
  intro s E Q I P _
  refine plainObj_wpAny_Assign_Attribute (h s E _ I fun s₁ v d H₁ I₁ S₁ hv k₁ => k₁ s₁ E _ I₁ fun s₂ ov od H₂ I₂ S₂ ho k₂ => ?_) hs
  obtain ⟨C, dx, l, pre, post, rfl, rfl, hz, ok, kn⟩ := k₂
  obtain ⟨x, rfl, hx, hox⟩ := ho
  have hm : (dx, MO.dct l) ∈ pre ++ (dx, MO.dct l) :: post := List.mem_append_right _ (.head _)
  obtain ⟨es, n, IA, he, hd, nd⟩ := inst_of I₂ hm hox
  have gl := (entv_getL name he).1
  have hl : (getL name es).isSome = true := by
    split at gl
    · obtain ⟨u, e, _⟩ := gl; rw [e]; rfl
    · rw [gl]; rfl
  have nref := (entv_getL name he).2
  refine set_plain I₂.X IA ok.set ?_
  refine osa_open (s := { s₂ with toks := s₂.toks + 1 }) I₂.X IA ok.plain ok.taker fun b => ?_
  obtain ⟨cd, hc, hd'⟩ := any_some ok.dict
  refine wpAny_bind (wpAny_pure (wpAny_bind (wpAny_bind (wpAny_loadPart hox (wpAny_bind ((looks_clsIn I₂.X hc).here (s := { s₂ with toks := s₂.toks + 1 }) ?_))))))
  rw [hd']
  refine wpAny_pure (a := some dx) (wpAny_bind (wpAny_pure (wpAny_bind ?_)))
  unfold nsSet
  refine wpAny_bind (wpAny_bind (wpAny_askSetting (wpAny_pure (wpAny_bind (wpAny_mkText (wpAny_bind (wpAny_loadPart hd ?_)))))))
  dsimp only
  have cc : (!es.toArray.any (·.key.isStr name) && es.toArray.any (·.refKey)) = false := by
    rw [← Array.any_toList, ← Array.any_toList, nref, Bool.and_false]
  rw [aRefKeyMayBeTheName_at, cc]
  refine wpAny_updatePart hd ?_
  have hsb := Heap.SameBut.update s₂.heap dx (Obj.putName name (PyData.keyHash c.w.params name) (.str name (s₂.toks + 1)) v)
  have gs : (s₂.heap.update dx (Obj.putName name (PyData.keyHash c.w.params name) (.str name (s₂.toks + 1)) v)).get? dx = some (dictOf (putL name (PyData.keyHash c.w.params name) (.str name (s₂.toks + 1)) v es) (putN name es n)) := by
    rw [← putName_dict]
    exact Heap.get?_update_self _ hd (by rw [putName_dict]; rfl)
  refine wpAny_bind (wpAny_lookBehind gs (pastItsLine_dict (by
    rw [List.size_toArray, sizeLine_eq]
    have := bindV_length (entv_open (prog := c.prog) he).choose_spec.2.2.1
    have h1 : es.length = l.length := ((entv_open (prog := c.prog) he).choose_spec.1.length).trans this
    have h2 : (putL name (PyData.keyHash c.w.params name) (.str name (s₂.toks + 1)) v es).length ≤ es.length + 1 := by
      clear gs hsb he hd gl hl nref cc IA this h1
      induction es with
      | nil => simp [putL]
      | cons e r ih => simp only [putL]; split <;> simp <;> omega
    omega)) ?_)
  have S := upd_step (pre := pre) (post := post) (m := .dct l) (m' := .dct l) hsb
  have hv2 := V.step S _ _ (V.step S₂ _ _ hv)
  have gg := I₂.upd (h' := _) (t := s₂.toks + 1 + 1) (m' := .dct (putA name d l)) hsb ⟨_, _, gs, entv_putL hv2 nd (he.step S), putA_nodup nd⟩
  exact wpAny_pure (P _ _ gg.1 ((S₁.trans S₂).trans gg.2) kn)
noncomputable abbrev MarK (c : Cx) (A : Around) (f C dx : Addr) (K : AV → HL → Prop) : List AV → HL → Prop := fun ds H₂ => AC c A (.adr f) (.obj C dx :: ds) H₂ K
noncomputable abbrev MetK (c : Cx) (A : Around) (env : Env) (name : Str) (pos : Pos) (es : List Expr) (K : AV → HL → Prop) : AV → HL → Prop := fun d H₁ => ∃ C dx l f, d = .obj C dx ∧ (dx, MO.dct l) ∈ H₁ ∧ l.lookup name = none ∧ MethOk c.K C name f ∧ AL c A env pos es H₁ (MarK c A f C dx K)
theorem metK {name : Str} {pos : Pos} {es : List Expr} {C dx f : Addr} {l : List (Str × AV)} (hm : (dx, MO.dct l) ∈ H) (hl : l.lookup name = none) (ok : MethOk c.K C name f) (k : AL c A env pos es H (MarK c A f C dx K)) : MetK c A env name pos es K (.obj C dx) H := ⟨C, dx, l, f, rfl, hm, hl, ok, k⟩
/-- o.f(..) of an object -/
theorem e_meth {o : Expr} {name : Str} {apos pos : Pos} {es : List Expr} (h : AE c A env o H (MetK c A env name pos es K))
    (hs : starEach es env = es.map fun e => (false, eval e env) := by with_unfolding_all rfl) (hb : attributeBase o name env (eval o env) = eval o env := by with_unfolding_all rfl)
    (hf : methodCallForm (es.length + 0) (backTo pos (starEach es env)) [] = true := by with_unfolding_all rfl) (hp : (apos.endLine == pos.line) = true := by rfl) : AE c A env (.Call (.Attribute o name apos) es [] pos) H K := by
  intro s E Q I P
  show wpAny _ _ (eval (.Call (.Attribute o name apos) es [] pos) env) _ _ _
  rw [arm_eval_Call, hb]
  refine wpAny_bind (h s E _ I fun s₁ v d H₁ I₁ S₁ hv k => wpAny_bind (wpAny_standAt ?_))
  obtain ⟨C, dx, l, f, rfl, hm, hl, ok, k⟩ := k
  obtain ⟨x, rfl, hx, hox⟩ := id hv
  obtain ⟨es', n, IA, he, hd, nd⟩ := inst_of I₁ hm hox
  have gl := (entv_getL name he).1
  rw [hl] at gl
  unfold methodCall
  refine wpAny_bind (wpAny_holding ?_)
  rw [show methodCallForm (es.length + List.length []) (backTo pos (starEach es env)) (backToKw pos (keywordEach [] env)) = true from hf]
  unfold calleeOf
  rw [if_pos rfl]
  refine method_fn I₁.X IA (plainGet_of ok.get).1 (plainGet_of ok.get).2 ok.find (beq_iff_eq.mp ok.fn) (by show (lookIn name (dictOf es' n)).map _ = _; rw [lookIn_dict, gl]; rfl) ?_
  refine wpAny_bind ?_
  unfold methodCallPos
  rw [hp]
  simp only [Bool.not_true, Bool.false_or, if_true]
  refine wpAny_pure ?_
  exact callWith_av (fd := .adr f) (fds := [.obj C dx]) I₁ rfl (.one hv) ok.keep k (P.behind S₁) hs
/-- a method of a built-in type, on an object of the ledger -/
theorem e_methB {o : Expr} {name : Str} {apos pos : Pos} {es : List Expr} {T id : String} (slot : Slot T name id) (hty : typeOf (.builtin id) = pure (.type "method_descriptor")) (pa : PlainAttrs T)
    (h : AE c A env o H fun d H₁ => ∃ a m, d = .adr a ∧ (a, m) ∈ H₁ ∧ (T = "list" ∧ (∃ l, m = .lst l) ∨ T = "dict" ∧ ∃ l, m = .dct l) ∧ AL c A env pos es H₁ fun ds H₂ => AC c A (.blt id) (.adr a :: ds) H₂ K)
    (hs : starEach es env = es.map fun e => (false, eval e env) := by with_unfolding_all rfl) (hb : attributeBase o name env (eval o env) = eval o env := by with_unfolding_all rfl)
    (hf : methodCallForm (es.length + 0) (backTo pos (starEach es env)) [] = true := by with_unfolding_all rfl) (hp : (apos.endLine == pos.line) = true := by rfl) : AE c A env (.Call (.Attribute o name apos) es [] pos) H K := by
  intro s E Q I P
  show wpAny _ _ (eval (.Call (.Attribute o name apos) es [] pos) env) _ _ _
  rw [arm_eval_Call, hb]
  refine wpAny_bind (h s E _ I fun s₁ v d H₁ I₁ S₁ hv k => wpAny_bind (wpAny_standAt ?_))
  obtain ⟨a, m, rfl, hm, hT, k⟩ := k
  cases hv
  have hob : ∃ o, s₁.heap.get? a = some o ∧ o.cls = .type T ∧ o.dict = none := by
    rcases hT with ⟨rfl, l, rfl⟩ | ⟨rfl, l, rfl⟩
    · obtain ⟨vs, n, e, _⟩ := I₁.ok _ hm; exact ⟨_, e, rfl, rfl⟩
    · obtain ⟨es, n, e, _⟩ := I₁.ok _ hm; exact ⟨_, e, rfl, rfl⟩
  obtain ⟨ob, e, hc, hdn⟩ := hob
  unfold methodCall
  refine wpAny_bind (wpAny_holding ?_)
  rw [show methodCallForm (es.length + List.length []) (backTo pos (starEach es env)) (backToKw pos (keywordEach [] env)) = true from hf]
  unfold calleeOf
  rw [if_pos rfl]
  refine getMethod_builtin (T := T) ⟨ob, e, hc⟩ pa slot hty (fun b q => by cases q; exact ⟨ob, e, hdn⟩) ?_
  refine wpAny_bind ?_
  unfold methodCallPos
  rw [hp]
  simp only [Bool.not_true, Bool.false_or, if_true]
  refine wpAny_pure ?_
  exact callWith_av (fd := .blt id) (fds := [.adr a]) I₁ rfl (.one rfl) rfl k (P.behind S₁) hs
theorem ac_append {pre post : HL} {D : Addr} {l : List AV} {d : AV} (hz : l.length ≤ 10000) (k : K .none (pre ++ (D, .lst (l ++ [d])) :: post)) : AC c A (.blt "list.append") [.adr D, d] (pre ++ (D, .lst l) :: post) K := AC.of2 fun s fv av dv E Q I hf va vd P => by
  cases hf; cases va
  exact append_led I vd hz fun s' I' S' => P _ _ .none _ I' S' rfl k
/-- a bound method is called -/
theorem ac_mth {f : Addr} {self : AV} {ds : List AV} (h : AF c A f (self :: ds) H K) : AC c A (.mth f self) ds H K := by
  rintro s vs E Q I ⟨fv, as, rfl, hf, hv⟩ P
  obtain ⟨x, u, rfl, hx, ho, hu⟩ := hf
  exact wpAny_call (method_call ho (h s (u :: as) E Q I ⟨u, as, rfl, hu, hv⟩ P))
theorem tcall_weight (C : Addr) (as : List Value) : (Code.builtin "type.__call__" ⟨.ref C :: as, []⟩).weight = 1 := by rfl
theorem tcall_units (args : Args) : (Code.builtin "type.__call__" args).cUnits = 1 := by rfl
theorem tcall_guards (args : Args) : (Code.builtin "type.__call__" args).guards = [] := by rfl
theorem Room.make {k : Nat} (R : Room (k + 1) A) (C : Addr) (as : List Value) : Room k (A.under (.builtin "type.__call__" ⟨.ref C :: as, []⟩)) := by
  have h1 := R.depth
  have h2 := R.units
  refine ⟨?_, ?_, ?_, R.handled⟩
  · show A.depth + (Code.builtin "type.__call__" ⟨.ref C :: as, []⟩).weight + k ≤ 900
    rw [tcall_weight]; omega
  · show A.units + (Code.builtin "type.__call__" ⟨.ref C :: as, []⟩).cUnits + 20 * k + 200 ≤ 9000
    rw [tcall_units]; omega
  · show pushGuards (Code.builtin "type.__call__" ⟨.ref C :: as, []⟩).guards A.guards = some []
    rw [tcall_guards]; exact R.guards
/-- a class is called -/
theorem ac_class {C fI : Addr} {ds : List AV} {k : Nat} (R : Room (k + 1) A) (hm : makesIn c.K C = true) (hi : findIn c.K (.ref C) "__init__" = some (some (.ref fI))) (hf : typeIn c.K (.ref fI) = some (.type "function"))
    (h : ∀ dx A', Room k A' → AF c A' fI (.obj C dx :: ds) ((dx, .dct []) :: H) fun d H' => d = .none ∧ K (.obj C dx) H') : AC c A (.adr C) ds H K := by
  rintro s vs E Q I ⟨fv, as, rfl, rfl, hv⟩ P
  obtain ⟨hh, g, d, t, os⟩ := s
  refine wpAny_call (make_core (makes_of I.X hm) (looks_findIn I.X hi) (fun self => bind_fn I.X self hf) (.inl rfl) ?_)
  have g1 := I.newDct
  have k2 : ∀ b o, (hh.push { cls := .type "dict", data := .dict #[] }).get? b = some o → ((hh.push emptyDict).push (instObj C hh.objs.size)).get? b = some o := fun b o e => Heap.get?_push_of_some _ e
  have g2 := g1.1.grow (h' := (hh.push emptyDict).push (instObj C hh.objs.size)) (t := t) k2
  have hsz : (hh.push emptyDict).objs.size = hh.objs.size + 1 := size_push' _ _
  have hx : ((hh.push emptyDict).push (instObj C hh.objs.size)).get? (hh.objs.size + 1) = some (instObj C hh.objs.size) := by
    rw [← hsz]; exact Heap.get?_push_size _ rfl
  have vx : V ((hh.push emptyDict).push (instObj C hh.objs.size)) (hh.objs.size :: dom H) (.obj C hh.objs.size) (.ref (hh.objs.size + 1)) := by
    refine ⟨_, rfl, fun m => ?_, hx⟩
    rcases List.mem_cons.mp m with e | m
    · exact Nat.succ_ne_self _ e
    · obtain ⟨p, hp, q⟩ := List.mem_map.mp m
      obtain ⟨o, q'⟩ := (I.ok p hp).here
      exact Nat.not_lt_of_le (Nat.le_succ _) (q ▸ Heap.lt_size q')
  have S := g1.2.trans g2.2
  refine codeAny_mono (h hh.objs.size _ (R.make _ _) _ (.ref (hh.objs.size + 1) :: as) E (fun v s' => v = .none ∧ Q (.ref (hh.objs.size + 1)) s') g2.1 ⟨_, as, rfl, vx, VL.step S _ _ hv⟩ fun s' v d H' I' S' hv' q => ?_) fun r s' z => ?_
  · obtain ⟨rfl, q⟩ := q
    exact ⟨hv', P s' _ (.obj C hh.objs.size) H' I' (S.trans S') (V.step S' (.obj C hh.objs.size) _ vx) q⟩
  · rcases r with e | (v | _ | _ | _) <;> exact z
end
end Mine
end
section
open PySem PySem.W PySem.Calls PyProof.Rows
set_option Elab.async false
set_option maxRecDepth 100000
namespace Mine
theorem noFill_tuple_mul : fillsNumberSlot (.type "tuple") "mul" = pure false :=
  PySem.fillsNumberSlot_seq (id := "tuple.__mul__") (r := some (.builtin "tuple.__rmul__")) PySem.F.slot_tuple_mul.lookup (by decide +kernel) (by rw [typeLookup_type, builtinLookup_eq_fast]; kernel_rfl) (by decide +kernel)
theorem repeat_tuple : seqRepeat? (.type "tuple") = pure (some (.builtin "tuple.__mul__")) := by
  unfold seqRepeat?
  rw [PySem.seqSlot_of (T := "tuple") (name := "__mul__") (id := "tuple.__mul__") PySem.F.slot_tuple_mul.lookup (by decide +kernel), PySem.seqSlot_of (T := "tuple") (name := "__rmul__") (id := "tuple.__rmul__") (by rw [typeLookup_type, builtinLookup_eq_fast]; kernel_rfl) (by decide +kernel)]
  rfl
theorem rmul_tuple (a : Int) (t : Tok) (l : Addr) (items : Array Value) (n : Nat) :
    Meets (Builtin.«int.__rmul__» ⟨[.int a t, .ref l], []⟩) (fun _ R s => s.heap.get? l = some { cls := .type "tuple", dict := none, data := .seq items n, slots := #[] } ∧ R (.ok (.ret Value.notImplemented)) s) :=
  .of_wp fun prog w A R s h => by obtain ⟨hp, g, d, tk, os⟩ := s; obtain ⟨hl, h⟩ := h; wp_walk; exact ⟨_, rfl, h⟩
theorem tuple_mul2 (t : Addr) (n : Nat) (u : Tok) :
    Meets (Builtin.«tuple.__mul__» ⟨[.ref t, .int 2 u], []⟩) (fun _ R s => s.heap.get? t = some { cls := .type "tuple", dict := none, data := .seq #[.none] n, slots := #[] } ∧ R (.ok (.ret (.ref s.heap.objs.size))) { s with heap := s.heap.push { cls := .type "tuple", data := .seq #[.none, .none] } }) :=
  .of_wp fun prog w A R s h => by
    obtain ⟨hl, h⟩ := h
    refine wpAny_bind (wpAny_of_eq (a := (2 : Int)) rfl ?_)
    rw [if_neg (by decide)]
    refine wpAny_bind (wpAny_tupleItemsOf hl rfl ?_)
    rw [if_neg (by decide), if_neg (by decide), if_neg (by decide), if_neg (by decide)]
    have e : (List.foldl (fun x1 x2 => x1 ++ x2) #[] (List.replicate (Int.toNat 2) #[Value.none])) = #[.none, .none] := rfl
    rw [e]
    exact wpAny_bind (m := Builtin.Tuple.tupleExact _) (wpAny_newObj_type (wpAny_pure ⟨_, rfl, h⟩) (by show (2 : Nat) ≤ sizeLine; rw [sizeLine_eq]; decide))
section
variable {c : Cx} {A : Around} {env : Env} {H : HL} {K : AV → HL → Prop}
theorem ob_mul2 (k : K (.tup [.none, .none]) H) : OB c A .Mult (.tup [.none]) (.int 2) H K := TVs.of2 fun s _ _ _ _ I va vb P => by
  obtain ⟨t, us, n, rfl, ht, e, v1, _, rfl, rfl, rfl⟩ := va
  obtain ⟨u, rfl⟩ := vb
  refine wpAny_binaryOp_repeat_ref (T := "tuple") (U := "int") (by decide) ⟨_, e, rfl⟩ (fun s' => typeIs_int s' 2 u) noFill_tuple_mul PySem.F.fills_int_mul PySem.F.slot_int_rmul repeat_tuple PySem.F.slot_int_index.lookup
    (call_meets PySem.F.slot_int_rmul (typeIs_int s 2 u) PySem.F.entry_int_rmul (PySem.F.args_int_rmul_2 _ _) (rmul_tuple 2 u t #[.none] (n * 0))
      ⟨e, rfl, ⟨_, e, rfl⟩, call_meets PySem.F.slot_tuple_mul ⟨_, e, rfl⟩ PySem.F.entry_tuple_mul (PySem.F.args_tuple_mul_2 _ _) (tuple_mul2 t (n * 0) u) ⟨e, ?_⟩⟩)
  have g := I.newTup (ds := [.none, .none]) (vs := [.none, .none]) ⟨_, _, rfl, rfl, _, _, rfl, rfl, rfl⟩
  exact P _ _ (.tup [.none, .none]) _ g.1 g.2.1 g.2.2 k

/-! slices -/
theorem tail_slice {value lo : Expr} {s : Shared} {E Q : Value → Shared → Prop} {slice : Expr} {o i : Value} {T id : String} (hT : s.TypeIs o T) (hl : typeLookup (.type T) "__getitem__" = pure (some (.builtin id))) (h : wpAny c.M A (getItem o i) Q E s)
    (hs : subscripted slice false o i = operate [i, o] (getItem o i)) : wpAny c.M A (do let r ← subscripted slice (← getitemInPython o) o i; letTemporaryGo value o r; pure r) Q E s := by
  have fin : wpAny c.M A (operate [i, o] (getItem o i)) (fun r s₃ => wpAny c.M A (letTemporaryGo value o r >>= fun _ => pure r) Q E s₃) E s :=
    wpAny_operating (wpAny_mono h (fun r s₃ h₃ => wpAny_bind (wpAny_letTemporaryGo (wpAny_pure h₃))) fun _ _ x => x)
  refine wpAny_bind ?_
  rw [getitemInPython_of_ne hT.not_modules]
  refine wpAny_bind (wpAny_specialOf hT hl ?_)
  refine wpAny_pure ?_
  show wpAny _ _ (subscripted slice false o i >>= _) _ _ _
  rw [hs]
  exact wpAny_bind fin
theorem adjust_upto (b n : Nat) : Builtin.Slice.sliceAdjust none (some (b : Int)) 1 (n : Int) = (0, ((min b n : Nat) : Int)) := by
  unfold Builtin.Slice.sliceAdjust
  have h1 : ¬ ((1 : Int) < 0) := by omega
  have h2 : ¬ ((b : Int) < 0) := by omega
  simp only [h1, h2, if_false]
  congr 1
  omega
theorem places_upto (m : Nat) : Builtin.Slice.slicePlaces 0 (m : Int) 1 = m := by
  unfold Builtin.Slice.slicePlaces
  have h1 : (1 : Int) > 0 := by omega
  simp only [h1, if_true, Int.ediv_one]
  split <;> omega
theorem sliceApplied_upto {s : Shared} {E : Value → Shared → Prop} {sl : Addr} {b n : Nat} {u : Tok} {Q : Int × Int × Nat → Shared → Prop} (hs : s.heap.IsSliceOf sl .none (.int b u) .none) (h : Q (0, 1, min b n) s) :
    wpAny c.M A (Builtin.Slice.sliceApplied (.ref sl) (pure (n : Int))) Q E s := by
  obtain ⟨os, hos, hcs, hds⟩ := id hs
  unfold Builtin.Slice.sliceApplied Builtin.Slice.sliceFields
  refine wpAny_bind (wpAny_bind (wpAny_field hos hds (x := .none) rfl (wpAny_bind (wpAny_field hos hds (x := .int b u) rfl (wpAny_bind (wpAny_field hos hds (x := .none) rfl (wpAny_pure ?_)))))))
  refine wpAny_bind (slicePart_none ?_)
  show wpAny _ _ (if ((1 : Int) == 0) = true then _ else _) _ _ s
  rw [if_neg (by decide)]
  refine wpAny_bind (slicePart_none (wpAny_bind (slicePart_int (wpAny_bind (wpAny_pure ?_)))))
  show wpAny _ _ (match Builtin.Slice.sliceAdjust none (some (b : Int)) 1 (n : Int) with | (lo, hi) => pure (lo, (1 : Int), Builtin.Slice.slicePlaces lo hi 1)) _ _ s
  rw [adjust_upto b n]
  show wpAny _ _ (pure ((0 : Int), (1 : Int), Builtin.Slice.slicePlaces 0 ((min b n : Nat) : Int) 1)) _ _ s
  rw [places_upto]
  exact wpAny_pure h
theorem pick_upto (xs : Array Value) (b : Nat) : ((List.range (min b xs.size)).filterMap fun (k : Nat) => xs[((0 : Int) + (k : Int) * 1).toNat]?).toArray = (xs.toList.take b).toArray := by
  have e : (fun (k : Nat) => xs[((0 : Int) + (k : Int) * 1).toNat]?) = fun k => xs[0 + k]? := by
    funext k
    have : ((0 : Int) + (k : Int) * 1).toNat = 0 + k := by omega
    rw [this]
  rw [e]
  have := pick_run xs 0 (min b xs.size)
  rw [List.filterMap_map] at this
  have e2 : ((fun x => xs[x]?) ∘ fun x => 0 + x) = fun k => xs[0 + k]? := rfl
  rw [e2] at this
  rw [this, List.drop_zero]
  congr 1
  rw [List.take_eq_take_iff]
  simp
theorem getItem_tuple_upto {s : Shared} {E : Value → Shared → Prop} {t sl : Addr} {vs : List Value} {n b : Nat} {u : Tok} {Q : Value → Shared → Prop} (ht : s.heap.get? t = some (tupO vs n)) (hs : s.heap.IsSliceOf sl .none (.int b u) .none)
    (h1 : vs.length ≤ b → Q (.ref t) s)
    (h2 : b < vs.length → Q (.ref s.heap.objs.size) { s with heap := s.heap.push { cls := .type "tuple", data := .seq (vs.take b).toArray } })
    (hsz : vs.length ≤ 10000) : wpAny c.M A (getItem (.ref t) (.ref sl)) Q E s := by
  obtain ⟨os, hos, hcs, hds⟩ := id hs
  have hTs : s.TypeIs (.ref sl) "slice" := ⟨os, hos, hcs⟩
  have it := tupO_is ht
  unfold getItem
  try with_reducible refine wpAny_holding ?_
  first | refine wpAny_bind (wpAny_pure ?_) | skip
  refine wpAny_bind (wpAny_sequenceKey it.typeIs (by decide) ?_)
  refine wpAny_bind (wpAny_callSpecial?_slot (name := Str.ofString "__getitem__") it.typeIs slot_tuple_getitem
    (wpAny_call_entry slot_tuple_getitem it.typeIs entry_tuple_getitem ?_ (args_tuple_getitem _ _)))
  show wpAny _ _ (Builtin.Tuple.tupleItemsOf (.ref t) >>= _) _ _ s
  refine wpAny_bind (tupleItemsOf_ it ?_)
  refine wpAny_bind (wpAny_typeOf hTs ?_)
  rw [if_pos (by decide)]
  refine wpAny_bind (sliceApplied_upto hs ?_)
  show wpAny _ _ (if ((0 : Int) == 0 && (1 : Int) == 1 && (min b vs.toArray.size) == vs.toArray.size) = true then _ else _) _ _ s
  have hv : vs.toArray.size = vs.length := by simp
  by_cases hb : vs.length ≤ b
  · rw [if_pos (by simp; omega)]
    refine wpAny_bind ?_
    show wpAny _ _ (typeOf (.ref t) >>= _) _ _ _
    refine wpAny_bind (wpAny_typeOf it.typeIs (wpAny_pure ?_))
    rw [if_pos (by decide)]
    exact wpAny_bind (wpAny_rule (wpAny_bind (wpAny_pure (wpAny_pure ⟨_, rfl, wpAny_pure (h1 hb)⟩))))
  · have hno : ¬ (((0 : Int) == 0 && (1 : Int) == 1 && (min b vs.toArray.size) == vs.toArray.size) = true) := by
      simp; omega
    rw [if_neg hno, pick_upto]
    have hdrop : sizeOk (.seq (vs.take b).toArray) := by
      show (vs.take b).toArray.size ≤ sizeLine
      rw [List.size_toArray, List.length_take, sizeLine_eq]
      omega
    first
      | exact wpAny_bind (m := Builtin.Tuple.tupleExact _) (wpAny_newObj_type (wpAny_pure ⟨_, rfl, wpAny_pure (h2 (by omega))⟩) hdrop)
      | exact wpAny_bind (m := Builtin.Tuple.tupleExact _) (wpAny_newObj_type (wpAny_bind (wpAny_pure (wpAny_pure ⟨_, rfl, wpAny_pure (h2 (by omega))⟩))) hdrop)
end
end Mine
end
section
open PySem PySem.W PySem.Calls PyProof.Rows
set_option Elab.async false
set_option maxRecDepth 100000
namespace Mine
section
variable {c : Cx} {A : Around} {env : Env} {H : HL} {K : AV → HL → Prop}
theorem sub_arm {value slice : Expr} {pos : Pos} : eval (.Subscript value slice pos) env = (do
    let o ← eval value env
    let i ← holding [o] (eval slice env)
    standAt pos
    let r ← subscripted slice (← getitemInPython o) o i
    letTemporaryGo value o r
    pure r) := rfl
noncomputable abbrev FroR (d : AV) (K : AV → HL → Prop) : AV → HL → Prop := fun d₂ H₂ => ∃ a : Nat, d₂ = .int a ∧ ((∃ l, d = .tup l ∧ 1 ≤ a ∧ a ≤ l.length ∧ l.length ≤ 10000 ∧ K (.tup (l.drop a)) H₂) ∨ (∃ l, d = .lst l ∧ l.length ≤ 10000 ∧ K (.lst (l.drop a)) H₂))
noncomputable abbrev FroL (c : Cx) (A : Around) (env : Env) (lower : Expr) (K : AV → HL → Prop) : AV → HL → Prop := fun d H₁ => AE c A env lower H₁ (FroR d K)
/-- x[a:] -/
theorem e_from {value lower : Expr} {p pos : Pos} (h : AE c A env value H (FroL c A env lower K)) :
    AE c A env (.Subscript value (.Slice (some lower) none none p) pos) H K := by
  intro s E Q I P
  show wpAny _ _ (eval (.Subscript value (.Slice (some lower) none none p) pos) env) _ _ _
  rw [sub_arm]
  refine wpAny_bind (h s E _ I fun s₁ o d H₁ I₁ S₁ ho h₁ => wpAny_bind (wpAny_holding (wpAny_Slice ?_)))
  rw [evalPart_some, evalPart_none]
  refine h₁ s₁ E _ I₁ fun s₂ i d₂ H₂ I₂ S₂ hi h₂ => wpAny_pure (wpAny_pure ?_)
  refine wpAny_bind (wpAny_standAt ?_)
  obtain ⟨a, rfl, h₂⟩ := h₂
  obtain ⟨u, rfl⟩ := hi
  have ho2 := V.step S₂ _ _ ho
  have g := I₂.grow (h' := s₂.heap.push { cls := .type "slice", data := .fields #[.int a u, .none, .none] }) (t := s₂.toks) fun b o e => Heap.get?_push_of_some _ e
  have ho3 := V.step g.2 _ _ ho2
  have sl : (s₂.heap.push { cls := .type "slice", data := .fields #[.int a u, .none, .none] }).IsSliceOf s₂.heap.objs.size (.int a u) .none .none := Heap.IsSliceOf.new ..
  generalize hs3 : ({ s₂ with heap := s₂.heap.push { cls := .type "slice", data := .fields #[.int a u, .none, .none] } } : Shared) = s₃
  have I₃ : Inv c H₂ s₃ := hs3 ▸ g.1
  have S₃ : Step (dom H₂) s₂.heap (dom H₂) s₃.heap := hs3 ▸ g.2
  have ho4 : V s₃.heap (dom H₂) d o := by rw [← hs3]; exact ho3
  have sl3 : s₃.heap.IsSliceOf s₂.heap.objs.size (.int a u) .none .none := by rw [← hs3]; exact sl
  rcases h₂ with ⟨l, rfl, h1, ha, hz, k⟩ | ⟨l, rfl, hz, k⟩
  · obtain ⟨x, vs, n, rfl, hx, e, hv⟩ := ho4
    have lv := hv.length
    have sz : vs.toArray.size = l.length := by rw [List.size_toArray, lv]
    refine tail_slice (lo := value) (T := "tuple") ⟨_, e, rfl⟩ slot_tuple_getitem.lookup (getItem_tuple_from (tupO_is e) sl3 h1 (by rw [sz]; exact ha) ?_ (by rw [sz]; exact Nat.le_trans hz (by decide))) rfl
    have g2 := I₃.newTup (hv.drop a)
    exact P _ _ (.tup (l.drop a)) _ g2.1 (((S₁.trans S₂).trans S₃).trans g2.2.1) g2.2.2 k
  · obtain ⟨x, vs, n, rfl, hx, e, hv⟩ := ho4
    have lv := hv.length
    have sz : vs.toArray.size = l.length := by rw [List.size_toArray, lv]
    refine tail_slice (lo := value) (T := "list") ⟨_, e, rfl⟩ slot_list_getitem.lookup (wpAny_getItem_list_slice (lstO_is e) sl3 (.int a u) .none .none (by simp) ?_ (by rw [sz]; exact Nat.le_trans hz (by decide))) rfl
    rw [slicePick_from']
    have g2 := I₃.newLst (hv.drop a)
    exact P _ _ (.lst (l.drop a)) _ g2.1 (((S₁.trans S₂).trans S₃).trans g2.2.1) g2.2.2 k
noncomputable abbrev UptR (d : AV) (K : AV → HL → Prop) : AV → HL → Prop := fun d₂ H₂ => ∃ b : Nat, d₂ = .int b ∧ ((∃ l, d = .tup l ∧ l.length ≤ 10000 ∧ K (.tup (l.take b)) H₂) ∨ (∃ l, d = .lst l ∧ l.length ≤ 10000 ∧ K (.lst (l.take b)) H₂))
noncomputable abbrev UptL (c : Cx) (A : Around) (env : Env) (upper : Expr) (K : AV → HL → Prop) : AV → HL → Prop := fun d H₁ => AE c A env upper H₁ (UptR d K)
/-- x[:b] -/
theorem e_upto {value upper : Expr} {p pos : Pos} (h : AE c A env value H (UptL c A env upper K)) :
    AE c A env (.Subscript value (.Slice none (some upper) none p) pos) H K := by
  intro s E Q I P
  show wpAny _ _ (eval (.Subscript value (.Slice none (some upper) none p) pos) env) _ _ _
  rw [sub_arm]
  refine wpAny_bind (h s E _ I fun s₁ o d H₁ I₁ S₁ ho h₁ => wpAny_bind (wpAny_holding (wpAny_Slice ?_)))
  rw [evalPart_none, evalPart_some]
  refine wpAny_pure (h₁ s₁ E _ I₁ fun s₂ i d₂ H₂ I₂ S₂ hi h₂ => wpAny_pure ?_)
  refine wpAny_bind (wpAny_standAt ?_)
  obtain ⟨a, rfl, h₂⟩ := h₂
  obtain ⟨u, rfl⟩ := hi
  have ho2 := V.step S₂ _ _ ho
  have g := I₂.grow (h' := s₂.heap.push { cls := .type "slice", data := .fields #[.none, .int a u, .none] }) (t := s₂.toks) fun b o e => Heap.get?_push_of_some _ e
  have ho3 := V.step g.2 _ _ ho2
  have sl : (s₂.heap.push { cls := .type "slice", data := .fields #[.none, .int a u, .none] }).IsSliceOf s₂.heap.objs.size .none (.int a u) .none := Heap.IsSliceOf.new ..
  generalize hs3 : ({ s₂ with heap := s₂.heap.push { cls := .type "slice", data := .fields #[.none, .int a u, .none] } } : Shared) = s₃
  have I₃ : Inv c H₂ s₃ := hs3 ▸ g.1
  have S₃ : Step (dom H₂) s₂.heap (dom H₂) s₃.heap := hs3 ▸ g.2
  have ho4 : V s₃.heap (dom H₂) d o := by rw [← hs3]; exact ho3
  have sl3 : s₃.heap.IsSliceOf s₂.heap.objs.size .none (.int a u) .none := by rw [← hs3]; exact sl
  rcases h₂ with ⟨l, rfl, hz, k⟩ | ⟨l, rfl, hz, k⟩
  · have ho5 := ho4
    obtain ⟨x, vs, n, rfl, hx, e, hv⟩ := ho4
    have lv := hv.length
    refine tail_slice (lo := value) (T := "tuple") ⟨_, e, rfl⟩ slot_tuple_getitem.lookup (getItem_tuple_upto e sl3 (fun hb => ?_) (fun hb => ?_) (by rw [lv]; exact hz)) rfl
    · rw [List.take_of_length_le (by rw [← lv]; exact hb)] at k
      exact P _ _ (.tup l) _ I₃ ((S₁.trans S₂).trans S₃) ho5 k
    · have g2 := I₃.newTup (hv.take a)
      exact P _ _ (.tup (l.take a)) _ g2.1 (((S₁.trans S₂).trans S₃).trans g2.2.1) g2.2.2 k
  · obtain ⟨x, vs, n, rfl, hx, e, hv⟩ := ho4
    have lv := hv.length
    have sz : vs.toArray.size = l.length := by rw [List.size_toArray, lv]
    refine tail_slice (lo := value) (T := "list") ⟨_, e, rfl⟩ slot_list_getitem.lookup (wpAny_getItem_list_slice (lstO_is e) sl3 .none (.int a u) .none (by simp) ?_ (by rw [sz]; exact Nat.le_trans hz (by decide))) rfl
    rw [slicePick_upto']
    have g2 := I₃.newLst (hv.take a)
    exact P _ _ (.lst (l.take a)) _ g2.1 (((S₁.trans S₂).trans S₃).trans g2.2.1) g2.2.2 k

/-! data -/
mutual
noncomputable def py : AV → PyData
  | .none => .none
  | .bool b => .bool b
  | .int i => .int i
  | .str x => .str x
  | .tup l => .tuple (pyL l)
  | .lst l => .list (pyL l)
  | _ => .none
noncomputable def pyL : List AV → List PyData
  | [] => []
  | d :: l => py d :: pyL l
end
/-- plain data of at most n levels -/
noncomputable def okV : Nat → AV → Bool
  | _, .none => true
  | _, .bool _ => true
  | _, .int _ => true
  | _, .str x => PyData.strOk x
  | n + 1, .tup l => l.all (okV n)
  | n + 1, .lst l => l.all (okV n)
  | _, _ => false
theorem okV_succ : ∀ {n : Nat} {d : AV}, okV n d = true → okV (n + 1) d = true
  | _, .none, _ => by simp [okV]
  | _, .bool _, _ => by simp [okV]
  | _, .int _, _ => by simp [okV]
  | _, .str x, h => by simpa [okV] using h
  | n + 1, .tup l, h => by
    simp only [okV, List.all_eq_true] at h ⊢
    exact fun x hx => okV_succ (h x hx)
  | n + 1, .lst l, h => by
    simp only [okV, List.all_eq_true] at h ⊢
    exact fun x hx => okV_succ (h x hx)
  | 0, .tup _, h => by simp [okV] at h
  | 0, .lst _, h => by simp [okV] at h
  | _, .any, h => by simp [okV] at h
  | _, .typ _, h => by simp [okV] at h
  | _, .blt _, h => by simp [okV] at h
  | _, .adr _, h => by simp [okV] at h
  | _, .scr _, h => by simp [okV] at h
  | _, .obj _ _, h => by simp [okV] at h
  | _, .mth _ _, h => by simp [okV] at h
  | _, .rng _ _, h => by simp [okV] at h
theorem okV_le {n m : Nat} {d : AV} (h : okV n d = true) (hm : n ≤ m) : okV m d = true := by
  induction hm with
  | refl => exact h
  | step _ ih => exact okV_succ ih
theorem ok_py : ∀ (n : Nat) (d : AV), okV n d = true → (py d).canLay0 = true ∧ (py d).depth ≤ n + 1
  | _, .none, _ => ⟨by simp [py, PyData.canLay0], by simp [py, PyData.depth]⟩
  | _, .bool _, _ => ⟨by simp [py, PyData.canLay0], by simp [py, PyData.depth]⟩
  | _, .int _, _ => ⟨by simp [py, PyData.canLay0], by simp [py, PyData.depth]⟩
  | _, .str x, h => ⟨by simpa [py, PyData.canLay0, okV] using h, by simp [py, PyData.depth]⟩
  | n + 1, .tup l, h => by
    simp only [okV, List.all_eq_true] at h
    have ih := fun x hx => ok_py n x (h x hx)
    have : PyData.canLayAll0 (pyL l) = true ∧ PyData.depthAll (pyL l) ≤ n + 1 := by
      clear h
      induction l with
      | nil => exact ⟨by simp [pyL, PyData.canLayAll0], by simp [pyL, PyData.depthAll]⟩
      | cons d l ihl =>
        have a := ih d (.head _)
        have b := ihl fun x hx => ih x (.tail _ hx)
        refine ⟨by simp [pyL, PyData.canLayAll0, a.1, b.1], ?_⟩
        simp only [pyL, PyData.depthAll]
        omega
    exact ⟨by simpa [py, PyData.canLay0] using this.1, by simp only [py, PyData.depth]; omega⟩
  | n + 1, .lst l, h => by
    simp only [okV, List.all_eq_true] at h
    have ih := fun x hx => ok_py n x (h x hx)
    have : PyData.canLayAll0 (pyL l) = true ∧ PyData.depthAll (pyL l) ≤ n + 1 := by
      clear h
      induction l with
      | nil => exact ⟨by simp [pyL, PyData.canLayAll0], by simp [pyL, PyData.depthAll]⟩
      | cons d l ihl =>
        have a := ih d (.head _)
        have b := ihl fun x hx => ih x (.tail _ hx)
        refine ⟨by simp [pyL, PyData.canLayAll0, a.1, b.1], ?_⟩
        simp only [pyL, PyData.depthAll]
        omega
    exact ⟨by simpa [py, PyData.canLay0] using this.1, by simp only [py, PyData.depth]; omega⟩
  | 0, .tup _, h => by simp [okV] at h
  | 0, .lst _, h => by simp [okV] at h
  | _, .any, h => by simp [okV] at h
  | _, .typ _, h => by simp [okV] at h
  | _, .blt _, h => by simp [okV] at h
  | _, .adr _, h => by simp [okV] at h
  | _, .scr _, h => by simp [okV] at h
  | _, .obj _ _, h => by simp [okV] at h
  | _, .mth _ _, h => by simp [okV] at h
  | _, .rng _ _, h => by simp [okV] at h
theorem ok_shaped {n : Nat} {d : AV} (h : okV n d = true) (hn : n ≤ 60) : SeqAt.shaped (py d) = true := by
  have := ok_py n d h
  unfold SeqAt.shaped
  rw [this.1, Bool.true_and, decide_eq_true_eq]
  omega
theorem ok_reads {h : Heap} {D : List Addr} : ∀ (n : Nat) (d : AV) (v : Value), okV n d = true → V h D d v → ∃ as, Reads h v (py d) as
  | _, .none, _, _, hv => by cases hv; exact ⟨_, by rw [py]; exact .none⟩
  | _, .bool _, _, _, hv => by cases hv; exact ⟨_, by rw [py]; exact .bool _⟩
  | _, .int _, _, _, hv => by obtain ⟨t, rfl⟩ := hv; exact ⟨_, by rw [py]; exact .int _ _⟩
  | _, .str x, _, _, hv => by obtain ⟨t, rfl⟩ := hv; exact ⟨_, by rw [py]; exact .str _ _⟩
  | n + 1, .tup l, _, h0, hv => by
    simp only [okV, List.all_eq_true] at h0
    obtain ⟨a, vs, m, rfl, ha, e, hl⟩ := hv
    have : ∃ as, ReadsAll h vs (pyL l) as := by
      clear e
      induction l generalizing vs with
      | nil => cases hl; exact ⟨[], .nil⟩
      | cons d l ih =>
        obtain ⟨v, r, rfl, h1, h2⟩ := hl
        obtain ⟨as, ra⟩ := ok_reads n d v (h0 d (.head _)) h1
        obtain ⟨bs, rb⟩ := ih (fun x hx => h0 x (.tail _ hx)) r h2
        exact ⟨as ++ bs, .cons ra rb⟩
    obtain ⟨as, r⟩ := this
    exact ⟨as, by rw [py]; exact .tuple e rfl rfl r⟩
  | n + 1, .lst l, _, h0, hv => by
    simp only [okV, List.all_eq_true] at h0
    obtain ⟨a, vs, m, rfl, ha, e, hl⟩ := hv
    have : ∃ as, ReadsAll h vs (pyL l) as := by
      clear e
      induction l generalizing vs with
      | nil => cases hl; exact ⟨[], .nil⟩
      | cons d l ih =>
        obtain ⟨v, r, rfl, h1, h2⟩ := hl
        obtain ⟨as, ra⟩ := ok_reads n d v (h0 d (.head _)) h1
        obtain ⟨bs, rb⟩ := ih (fun x hx => h0 x (.tail _ hx)) r h2
        exact ⟨as ++ bs, .cons ra rb⟩
    obtain ⟨as, r⟩ := this
    exact ⟨a :: as, by rw [py]; exact .list e rfl rfl r⟩
  | 0, .tup _, _, h, _ => by simp [okV] at h
  | 0, .lst _, _, h, _ => by simp [okV] at h
  | _, .any, _, h, _ => by simp [okV] at h
  | _, .typ _, _, h, _ => by simp [okV] at h
  | _, .blt _, _, h, _ => by simp [okV] at h
  | _, .adr _, _, h, _ => by simp [okV] at h
  | _, .scr _, _, h, _ => by simp [okV] at h
  | _, .obj _ _, _, h, _ => by simp [okV] at h
  | _, .mth _ _, _, h, _ => by simp [okV] at h
  | _, .rng _ _, _, h, _ => by simp [okV] at h
mutual
theorem eqv_self : ∀ d : PyData, d.canLay0 = true → PyData.eqv d d = true
  | .none, _ => by simp [PyData.eqv]
  | .bool _, _ => by simp [PyData.eqv]
  | .int _, _ => by simp [PyData.eqv]
  | .str _, _ => by simp [PyData.eqv]
  | .list xs, h => by simp only [PyData.canLay0] at h; simp only [PyData.eqv]; exact eqvAll_self xs h
  | .tuple xs, h => by simp only [PyData.canLay0] at h; simp only [PyData.eqv]; exact eqvAll_self xs h
  | .dict _, h => by simp [PyData.canLay0] at h
theorem eqvAll_self : ∀ xs : List PyData, PyData.canLayAll0 xs = true → PyData.eqvAll xs xs = true
  | [], _ => by simp [PyData.eqvAll]
  | x :: xs, h => by
    simp only [PyData.canLayAll0, Bool.and_eq_true] at h
    simp only [PyData.eqvAll, Bool.and_eq_true]
    exact ⟨eqv_self x h.1, eqvAll_self xs h.2⟩
end
theorem oc_eqD {n m : Nat} {d e : AV} (hd : okV n d = true) (he : okV m e = true) (hn : n ≤ 60) (hm : m ≤ 60) (R : Room 0 A) (k : K (.bool (PyData.eqv (py d) (py e))) H) : OCm c A .Eq d e H K := TVs.of2 fun s _ _ _ _ I va vb P => by
  obtain ⟨as, ra⟩ := ok_reads n d _ hd va
  obtain ⟨bs, rb⟩ := ok_reads m e _ he vb
  have := R.units
  exact eq_dataH ra rb (ok_shaped hd hn) (ok_shaped he hm) (by show A.units + 64 < 9900; omega) (P.here (d := .bool _) I rfl k)
theorem oc_neD {n m : Nat} {d e : AV} (hd : okV n d = true) (he : okV m e = true) (hn : n ≤ 60) (hm : m ≤ 60) (R : Room 0 A) (k : K (.bool (!PyData.eqv (py d) (py e))) H) : OCm c A .NotEq d e H K := TVs.of2 fun s _ _ _ _ I va vb P => by
  obtain ⟨as, ra⟩ := ok_reads n d _ hd va
  obtain ⟨bs, rb⟩ := ok_reads m e _ he vb
  have := R.units
  exact ne_dataH ra rb (ok_shaped hd hn) (ok_shaped he hm) (by show A.units + 64 < 9900; omega) (P.here (d := .bool _) I rfl k)
theorem oc_self {n : Nat} {d : AV} (hd : okV n d = true) (hn : n ≤ 60) (R : Room 0 A) (k : K (.bool true) H) : OCm c A .Eq d d H K :=
  oc_eqD hd hd hn hn R (by rw [eqv_self _ (ok_py n d hd).1]; exact k)
theorem oc_nself {n : Nat} {d : AV} (hd : okV n d = true) (hn : n ≤ 60) (R : Room 0 A) (k : K (.bool false) H) : OCm c A .NotEq d d H K :=
  oc_neD hd hd hn hn R (by rw [eqv_self _ (ok_py n d hd).1]; exact k)
theorem pyL_map : ∀ l : List AV, pyL l = l.map py
  | [] => rfl
  | d :: l => by rw [pyL, pyL_map l]; rfl
/-- None not in a list of ints -/
theorem oc_nonein {l : List Int} (R : Room 0 A) (k : K (.bool true) H) : OCm c A .NotIn .none (.lst (l.map .int)) H K := TVs.of2 fun s _ _ _ _ I va vb P => by
  have ok : okV 1 (.lst (l.map .int)) = true := by
    simp only [okV, List.all_eq_true]
    intro x hx
    obtain ⟨i, _, rfl⟩ := List.mem_map.mp hx
    rfl
  obtain ⟨as, ra⟩ := ok_reads 1 _ _ ok vb
  have sh := ok_shaped ok (by decide)
  rw [py] at ra sh
  cases va
  have := R.units
  refine SeqAt.notIn_list_reads ra .none (SeqAt.canLay_of_shaped sh) (d := .none) (by simp [PyData.canLay0]) ?_ ?_
  · have : min (PyData.depthAll (pyL (l.map .int))) (PyData.depth .none) ≤ PyData.depth .none := Nat.min_le_right _ _
    have h2 : PyData.depth .none ≤ 1 := by simp [PyData.depth]
    show A.units + 1 + _ < 9900
    omega
  · have e : ((pyL (l.map AV.int)).any fun y => PyData.eqv y .none) = false := by
      rw [pyL_map, List.any_eq_false]
      intro x hx
      obtain ⟨d, hd, rfl⟩ := List.mem_map.mp hx
      obtain ⟨i, _, rfl⟩ := List.mem_map.mp hd
      simp [py, PyData.eqv]
    rw [e]
    exact P.here (d := .bool _) I rfl k
/-- repr of a list -/
theorem ac_repr {n : Nat} {l : List AV} (hd : okV n (.lst l) = true) (hn : n ≤ 60) (hs : (py (.lst l)).showable = true) (hz : (py (.lst l)).shown.length ≤ 16000000) (R : Room 0 A) (k : K (.str (py (.lst l)).shown) H) : AC c A (.blt "repr") [.lst l] H K := AC.of1 fun s fv a E Q I hf va P => by
  cases hf
  obtain ⟨as, ra⟩ := ok_reads n _ _ hd va
  obtain ⟨x, vs, m, rfl, hx, e, hv⟩ := va
  have hp := ok_py n _ hd
  have := R.units
  refine repr_of_reads' ra hs (PyData.noDict_hsm (PyData.hasDict_of_canLay _ hp.1)) R.guards (by show A.units + _ < 9900; omega) (fun _ _ e => e) (fun h' u tk hk => ?_) (by rw [sizeLine_eq]; omega)
  have g := I.grow (h' := h') (t := tk) hk
  exact P _ _ (.str _) _ g.1 g.2 ⟨u, rfl⟩ k
/-- isinstance(x, (tuple, list)) -/
noncomputable def seqT : AV → Option Bool
  | .none | .bool _ | .int _ | .str _ => some false
  | .tup _ | .lst _ => some true
  | _ => none
theorem ac_isiTL {d : AV} {b : Bool} (e : seqT d = some b) (k : K (.bool b) H) : AC c A (.blt "isinstance") [d, .tup [.typ "tuple", .typ "list"]] H K := AC.of2 fun s fv a tv E Q I hf va vt P => by
  cases hf
  obtain ⟨tp, us, n, rfl, _, ht, v1, _, rfl, rfl, v2, _, rfl, rfl, rfl⟩ := vt
  have q : ∀ tk, Q (.bool b) { s with toks := tk } := fun tk => P.tok (d := .bool _) I rfl k
  have mt := PySem.F.isi_meta_tuple
  have ml := PySem.F.isi_meta_list
  cases d with
  | none => cases va; cases e; exact IsiPair.tupleOfB (Tx := "NoneType") (vs := [false, false]) (.cons (.of_false_none (by decide +kernel) mt PySem.F.sub_NoneType_tuple) (.cons (.of_false_none (by decide +kernel) ml PySem.F.sub_NoneType_list) .nil)) rfl ht rfl q
  | bool b' => cases va; cases e; exact IsiPair.tupleOfB (Tx := "bool") (vs := [false, false]) (.cons (.of_false_bool (by decide +kernel) mt PySem.F.sub_bool_tuple) (.cons (.of_false_bool (by decide +kernel) ml PySem.F.sub_bool_list) .nil)) rfl ht rfl q
  | int i => obtain ⟨t, rfl⟩ := va; cases e; exact IsiPair.tupleOfB (Tx := "int") (vs := [false, false]) (.cons (.of_false_int (by decide +kernel) mt PySem.F.sub_int_tuple) (.cons (.of_false_int (by decide +kernel) ml PySem.F.sub_int_list) .nil)) rfl ht rfl q
  | str x => obtain ⟨t, rfl⟩ := va; cases e; exact IsiPair.tupleOfB (Tx := "str") (vs := [false, false]) (.cons (.of_false_str (by decide +kernel) mt PySem.F.sub_str_tuple) (.cons (.of_false_str (by decide +kernel) ml PySem.F.sub_str_list) .nil)) rfl ht rfl q
  | tup l =>
    obtain ⟨x, us, n', rfl, _, he, _⟩ := va
    cases e
    exact IsiPair.tupleOfB (Tx := "tuple") (vs := [true, false]) (.cons (.of_true mt PySem.F.sub_tuple_tuple) (.cons (.of_false_tuple (by decide +kernel) ml PySem.F.sub_tuple_list) .nil)) ⟨_, he, rfl⟩ ht rfl q
  | lst l =>
    obtain ⟨x, us, n', rfl, _, he, _⟩ := va
    cases e
    exact IsiPair.tupleOfB (Tx := "list") (vs := [false, true]) (.cons (.of_false_list (by decide +kernel) mt PySem.F.sub_list_tuple) (.cons (.of_true ml PySem.F.sub_list_list) .nil)) ⟨_, he, rfl⟩ ht rfl q
  | _ => cases e
end
end Mine
end
section
open PySem PySem.W PySem.Calls PyProof.Rows
set_option Elab.async false
namespace Mine
/-! the program's data, by kind -/
inductive Ty where
  | int | ref (r : AV) (m : Bool) (t : Ty) | box (t : Ty) | arr (t : Ty) | tup (a b : Ty) | adt (r s : AV) (t : Ty)
noncomputable def emb : Ty → AV
  | .int => .tup [.str "int", .str "u8"]
  | .ref r m t => .tup [.str "ref", r, .bool m, emb t]
  | .box t => .tup [.str "box", emb t]
  | .arr t => .tup [.str "array", emb t, .int 2]
  | .tup a b => .tup [.str "tuple", .tup [emb a, emb b]]
  | .adt r s t => .tup [.str "adt", .str "P", .tup [r, s], .tup [emb t]]
noncomputable def parts : Ty → List Ty
  | .int => [] | .ref _ _ t => [t] | .box t => [t] | .arr t => [t] | .tup a b => [a, b] | .adt _ _ t => [t]
noncomputable def tag : Ty → Str
  | .int => "int" | .ref .. => "ref" | .box _ => "box" | .arr _ => "array" | .tup .. => "tuple" | .adt .. => "adt"
/-- the state of the numbers: the names told, the next number -/
noncomputable abbrev nsl (ua : Addr) (n : Int) : List (Str × AV) := [("universal", .adr ua), ("count", .int n)]
noncomputable abbrev nst (ua : Addr) (n : Int) : MO := .dct (nsl ua n)
noncomputable def ofR (u : List (Str × AV)) (n : Int) : AV → AV × Int
  | .none => (.int n, n + 1)
  | .str x => ((u.lookup x).getD .none, n)
  | r => (r, n)
noncomputable def goodR (u : List (Str × AV)) (r : AV) : Prop := r = .none ∨ ∃ x i, r = .str x ∧ u.lookup x = some (.int i)
noncomputable def num (u : List (Str × AV)) : Int → Ty → Ty × Int
  | n, .int => (.int, n)
  | n, .ref r m t => (.ref (ofR u n r).1 m (num u (ofR u n r).2 t).1, (num u (ofR u n r).2 t).2)
  | n, .box t => (.box (num u n t).1, (num u n t).2)
  | n, .arr t => (.arr (num u n t).1, (num u n t).2)
  | n, .tup a b => (.tup (num u n a).1 (num u (num u n a).2 b).1, (num u (num u n a).2 b).2)
  | n, .adt r s t => (.adt (ofR u n r).1 (ofR u (ofR u n r).2 s).1 (num u (ofR u (ofR u n r).2 s).2 t).1, (num u (ofR u (ofR u n r).2 s).2 t).2)
noncomputable def goodT (u : List (Str × AV)) : Ty → Prop
  | .int => True
  | .ref r _ t => goodR u r ∧ goodT u t
  | .box t => goodT u t
  | .arr t => goodT u t
  | .tup a b => goodT u a ∧ goodT u b
  | .adt r s t => goodR u r ∧ goodR u s ∧ goodT u t
noncomputable def dep : Ty → Nat
  | .int => 0 | .ref _ _ t => dep t + 1 | .box t => dep t + 1 | .arr t => dep t + 1 | .tup a b => max (dep a) (dep b) + 1 | .adt _ _ t => dep t + 1
theorem attrOk_of {K : Frag} {C : Addr} {n : Str} (h1 : plainGet K C n = true) (h2 : hasDictIn K C = true) (h3 : findIn K (.ref C) n = some none) : AttrOk K C n := ⟨h1, h2, none, h3, rfl⟩
theorem putA_count {ua : Addr} {n m : Int} : putA "count" (.int m) (nsl ua n) = nsl ua m := by with_unfolding_all rfl
structure GF (c : Cx) (x : Str) (a : Addr) : Prop where
  e : nsIn c.K mainGlobals x = some (some (.ref a))
theorem e_fg {c : Cx} {A : Around} {env : Env} {H : HL} {K : AV → HL → Prop} {x : Str} {pos : Pos} {a : Addr} (e : GF c x a) (hk : env.scope.kind = .function) (hx : env.kindOf x = some .globalImplicit) (hg : env.globals = mainGlobals)
    (k : K (.adr a) H) (hd : (x == ("__debug__" : Str)) = false := by decide +kernel) : AE c A env (.Name x pos) H K := e_fn hk hx hg e.e k hd
theorem q_Body {c : Cx} : GF c (Str.ofString "Body") 82 := ⟨g_Body _⟩
theorem q_parts_of {c : Cx} : GF c (Str.ofString "parts_of") 93 := ⟨g_parts_of _⟩
theorem q_rebuilt {c : Cx} : GF c (Str.ofString "rebuilt") 100 := ⟨g_rebuilt _⟩
theorem q_with_regions {c : Cx} : GF c (Str.ofString "with_regions") 105 := ⟨g_with_regions _⟩
theorem q_Numbers {c : Cx} : GF c (Str.ofString "Numbers") 155 := ⟨g_Numbers _⟩
theorem q_operand_with {c : Cx} : GF c (Str.ofString "operand_with") 166 := ⟨g_operand_with _⟩
theorem q_operands_with {c : Cx} : GF c (Str.ofString "operands_with") 171 := ⟨g_operands_with _⟩
theorem q_rvalue_with {c : Cx} : GF c (Str.ofString "rvalue_with") 178 := ⟨g_rvalue_with _⟩
theorem q_statement_with {c : Cx} : GF c (Str.ofString "statement_with") 185 := ⟨g_statement_with _⟩
theorem q_callee_with {c : Cx} : GF c (Str.ofString "callee_with") 192 := ⟨g_callee_with _⟩
theorem q_terminator_with {c : Cx} : GF c (Str.ofString "terminator_with") 199 := ⟨g_terminator_with _⟩
theorem q_local_types {c : Cx} : GF c (Str.ofString "local_types") 204 := ⟨g_local_types _⟩
theorem q_renumbered {c : Cx} : GF c (Str.ofString "renumbered") 209 := ⟨g_renumbered _⟩
theorem q_Sig {c : Cx} : GF c (Str.ofString "Sig") 226 := ⟨g_Sig _⟩
theorem q_World {c : Cx} : GF c (Str.ofString "World") 255 := ⟨g_World _⟩
theorem q_law_pool {c : Cx} : GF c (Str.ofString "_law_pool") 266 := ⟨g_law_pool _⟩
theorem q_law_take {c : Cx} : GF c (Str.ofString "_law_take") 273 := ⟨g_law_take _⟩
theorem q_law_one {c : Cx} : GF c (Str.ofString "_law_one") 280 := ⟨g_law_one _⟩
theorem q_law_type {c : Cx} : GF c (Str.ofString "_law_type") 287 := ⟨g_law_type _⟩
theorem q_law_bare {c : Cx} : GF c (Str.ofString "_law_bare") 292 := ⟨g_law_bare _⟩
theorem q_law_regions {c : Cx} : GF c (Str.ofString "_law_regions") 297 := ⟨g_law_regions _⟩
theorem q_law_operand {c : Cx} : GF c (Str.ofString "_law_operand") 304 := ⟨g_law_operand _⟩
theorem q_law_statement {c : Cx} : GF c (Str.ofString "_law_statement") 311 := ⟨g_law_statement _⟩
theorem q_law_end {c : Cx} : GF c (Str.ofString "_law_end") 318 := ⟨g_law_end _⟩
theorem q_law_sig {c : Cx} : GF c (Str.ofString "_law_sig") 323 := ⟨g_law_sig _⟩
theorem q_law_fixed_right {c : Cx} : GF c (Str.ofString "_law_fixed_right") 330 := ⟨g_law_fixed_right _⟩
theorem q_law {c : Cx} : GF c (Str.ofString "law") 335 := ⟨g_law _⟩

section
variable {c : Cx} {A : Around} {env : Env} {H : HL} {K : AV → HL → Prop}
structure BTy (c : Cx) (x : Str) (n : String) : Prop where
  hv : bootBuiltins x = some (.type n)
  e : nsIn c.K mainGlobals x = some none
structure BFn (c : Cx) (x : Str) (n : String) : Prop where
  hv : bootBuiltins x = some (.builtin n)
  e : nsIn c.K mainGlobals x = some none
theorem e_typeA {x : Str} {pos : Pos} {n : String} (b : BTy c x n) (hk : env.scope.kind = .function) (hx : env.kindOf x = some .globalImplicit) (hg : env.globals = mainGlobals) (hb : env.builtins = builtinsNs)
    (hn : x ≠ "__name__") (k : K (.typ n) H) (hd : (x == ("__debug__" : Str)) = false := by decide) : AE c A env (.Name x pos) H K := e_type b.hv b.e hk hx hg hb hn k hd
theorem e_bfunA {x : Str} {pos : Pos} {n : String} (b : BFn c x n) (hk : env.scope.kind = .function) (hx : env.kindOf x = some .globalImplicit) (hg : env.globals = mainGlobals) (hb : env.builtins = builtinsNs)
    (hn : x ≠ "__name__") (k : K (.blt n) H) (hd : (x == ("__debug__" : Str)) = false := by decide) : AE c A env (.Name x pos) H K := e_bfun b.hv b.e hk hx hg hb hn k hd
theorem t_int : BTy c (Str.ofString "int") "int" := ⟨b_int, nb_int _⟩
theorem t_tuple : BTy c (Str.ofString "tuple") "tuple" := ⟨b_tuple, nb_tuple _⟩
theorem t_list : BTy c (Str.ofString "list") "list" := ⟨b_list, nb_list _⟩
theorem t_range : BTy c (Str.ofString "range") "range" := ⟨b_range, nb_range _⟩
theorem t_dict : BTy c (Str.ofString "dict") "dict" := ⟨b_dict, nb_dict _⟩
theorem t_str : BTy c (Str.ofString "str") "str" := ⟨b_str, nb_str _⟩
theorem f_len : BFn c (Str.ofString "len") "len" := ⟨b_len, nb_len _⟩
theorem f_max : BFn c (Str.ofString "max") "max" := ⟨b_max, nb_max _⟩
theorem f_isinstance : BFn c (Str.ofString "isinstance") "isinstance" := ⟨b_isinstance, nb_isinstance _⟩
theorem f_repr : BFn c (Str.ofString "repr") "repr" := ⟨b_repr, nb_repr _⟩
theorem f_sorted : BFn c (Str.ofString "sorted") "sorted" := ⟨b_sorted, nb_sorted _⟩
end
end Mine
end
section
open PySem PySem.W PySem.Calls PyProof.Rows
set_option Elab.async false
namespace Mine
section
variable {prog : Program} {w : World} {A : Around} {s : Shared}
theorem cellsB {R : Result → Shared → Prop} {a : Addr} {o : Obj} {fd : FuncData} {body : List Stmt} {vals : List Value} {binds : List (Str × Value)}
    (hroom : A.depth < recursionLimit) (ho : s.heap.get? a = some o) (hdata : o.data = .func fd) (hlim : s.heap.NoLimit) (hcd : s.heap.CodeRec fd.code fd.qualname)
    (hbody : fd.body = .stmts body) (hbind : BindsTo s fd ⟨vals, []⟩ binds) (hclo : fd.closure = [])
    (hkind : ∀ x ∈ binds, fd.scope.names.lookup x.1 = some .local ∨ (fd.scope.names.lookup x.1 = some .cell ∧ ((cellsFrom (s.heap.objs.size + 1) fd.scope.names []).lookup x.1).isSome = true))
    (h : ∀ s₁, InCallC s (callEnvC fd s.heap.objs.size a).locals (bindL (callEnvC fd s.heap.objs.size a).kindOf binds fun _ => none) (callEnvC fd s.heap.objs.size a).cells
        (bindC (callEnvC fd s.heap.objs.size a).kindOf binds fun _ => none) s₁ →
      wpAny (model prog w) (A.deeper (callEnvC fd s.heap.objs.size a)) (execs body (callEnvC fd s.heap.objs.size a)) (fun f s' => R (.ok (.ret (match f with | .ret v => v | _ => .none))) s')
        (fun e s' => wpAny (model prog w) (A.deeper (callEnvC fd s.heap.objs.size a)) (leaving (callEnvC fd s.heap.objs.size a) e) (fun _ s'' => R (.error e) s'') (fun e' s'' => R (.error e') s'') s') s₁)
    (hco : fd.scope.isCoroutine = false := by rfl) (hgen : fd.scope.isGenerator = false := by rfl) (hk : fd.scope.kind = .function := by rfl) :
    codeAny (model prog w) A (.call (.ref a) ⟨vals, []⟩) R s := by
  refine codeAny_call_function hroom ho hdata hco hgen hbody hcd ?_
  rw [hclo]
  refine hbind _ _ _ _ (wpAny_newFunctionEnv_cells hk hkind fun env he s' x => ?_)
  subst he
  exact ⟨hlim.keeps x.toInCall.keep, codeAny_func (h s' x)⟩
end
section
variable {c : Cx} {A : Around} {H : HL}
theorem af_defB {K : AV → HL → Prop} {f : Addr} {o : Obj} {fd : FuncData} {body : List Stmt} {ds : List AV} {ns : List Str} {k : Nat}
    (ho : c.K.lookup f = some o) (hdata : o.data = .func fd) (hcd : codeIn c.K fd.code fd.qualname = true) (hbody : fd.body = .stmts body) (hclo : fd.closure = [])
    (hlen : ns.length = ds.length) (hbind : ∀ (s : Shared) (vs : List Value), c.K.In s.heap → vs.length = ds.length → BindsTo s fd ⟨vs, []⟩ (ns.zip vs))
    (hkind : ∀ n L, n ∈ ns → fd.scope.names.lookup n = some .local ∨ fd.scope.names.lookup n = some .cell ∧ ((cellsFrom L fd.scope.names []).lookup n).isSome = true)
    (R : Room (k + 1) A)
    (h : ∀ L, Room k (A.deeper (callEnvC fd L f)) → ASs c (A.deeper (callEnvC fd L f)) (callEnvC fd L f) body (frameH (callEnvC fd L f) (ns.zip ds) ++ H) (Back K .none) (Back K))
    (hnd : ∀ L, ((cellsFrom L fd.scope.names []).map (·.1)).Nodup)
    (hco : fd.scope.isCoroutine = false := by rfl) (hgen : fd.scope.isGenerator = false := by rfl) (hk : fd.scope.kind = .function := by rfl) :
    AF c A f ds H K := by
  intro s as E Q I hv P
  have lv : as.length = ds.length := hv.length
  refine (cellsB (fd := fd) (body := body) (binds := ns.zip as) (by have := R.depth; show A.depth < 1000; omega) (I.X _ _ ho) hdata I.lim (codeRec_of I.X hcd) hbody (hbind s as I.X lv) hclo (fun x hx => ?_) (fun s₁ X => ?_) hco hgen hk)
  · exact hkind x.1 _ (List.of_mem_zip hx).1
  · generalize hL : s.heap.objs.size = L at X ⊢
    obtain ⟨h₁, tk, rfl, keep⟩ := X.done
    have fresh : ∀ a, L ≤ a → s.heap.get? a = none := fun a ha => by
      cases e : s.heap.get? a with
      | none => rfl
      | some o => have := Heap.lt_size e; rw [hL] at this; exact absurd ha (Nat.not_le.mpr this)
    have cellsE : (callEnvC fd L f).cells = cellsFrom (L + 1) fd.scope.names [] := rfl
    have hab : ∀ p ∈ (callEnvC fd L f).cells, L < p.2 := fun p hp => X.above p.1 p.2 hp
    have nd : (dom (frameH (callEnvC fd L f) (ns.zip ds))).Nodup := by
      show (L :: dom ((callEnvC fd L f).cells.map _)).Nodup
      rw [show dom ((callEnvC fd L f).cells.map fun p => (p.2, MO.cell ((celA (callEnvC fd L f).kindOf (ns.zip ds) []).lookup p.1))) = (callEnvC fd L f).cells.map (·.2) by simp [dom]]
      refine List.nodup_cons.mpr ⟨fun m => ?_, ?_⟩
      · obtain ⟨p, hp, e⟩ := List.mem_map.mp m
        exact absurd (hab p hp) (by rw [e]; exact Nat.lt_irrefl _)
      · exact List.pairwise_map.mpr X.apart
    have news : ∀ p ∈ frameH (callEnvC fd L f) (ns.zip ds), s.heap.get? p.1 = none := fun p hp => by
      rcases List.mem_cons.mp hp with rfl | hp
      · exact fresh _ (Nat.le_refl L)
      · obtain ⟨q, hq, rfl⟩ := List.mem_map.mp hp
        exact fresh _ (Nat.le_of_lt (hab q hq))
    have S0 : Step (dom H) s.heap (dom (frameH (callEnvC fd L f) (ns.zip ds) ++ H)) h₁ := ⟨fun b o _ e => keep b o e, fun b m => by
      rw [show dom (frameH (callEnvC fd L f) (ns.zip ds) ++ H) = dom (frameH (callEnvC fd L f) (ns.zip ds)) ++ dom H by simp [dom]] at m
      rcases List.mem_append.mp m with m | m
      · obtain ⟨p, hp, rfl⟩ := List.mem_map.mp m
        exact .inr (news p hp)
      · exact .inl m⟩
    have hb := (bindV_zip hlen hv).step S0
    have g := I.pushes (h' := h₁) (t := tk) (fr := frameH (callEnvC fd L f) (ns.zip ds)) keep news nd (fun p hp => by
      rcases List.mem_cons.mp hp with rfl | hp
      · exact ⟨_, X.toInCall.ns, locA_bindL (l := []) (m := fun _ => none) hb fun _ => rfl⟩
      · obtain ⟨q, hq, rfl⟩ := List.mem_map.mp hp
        exact ⟨_, X.cell q.1 q.2 (lookup_of_mem_nodup (hnd _) hq), celA_bindC (l := []) (m := fun _ => none) hb (fun _ => rfl) q.1⟩) (fun p hp => by
      rcases List.mem_cons.mp hp with rfl | hp
      · rw [hL]; exact Nat.le_refl L
      · obtain ⟨q, hq, rfl⟩ := List.mem_map.mp hp
        rw [hL]; exact Nat.le_of_lt (hab q hq))
    refine h L (R.deeper _) _ _ _ g.1 (fun s₂ H₂ I₂ S₂ q => ?_) (fun s₂ v d H₂ I₂ S₂ hv q => ?_)
    · obtain ⟨fr, H₃, pm, q⟩ := q
      have p1 := I₂.perm pm
      have p2 := Inv.drops p1.1
      exact P s₂ .none .none H₃ p2.1 (((g.2.trans S₂).trans p1.2).trans p2.2) rfl q
    · obtain ⟨fr, H₃, pm, q⟩ := q
      have p1 := I₂.perm pm
      have p2 := Inv.drops p1.1
      exact P s₂ v d H₃ p2.1 (((g.2.trans S₂).trans p1.2).trans p2.2) (V.step (p1.2.trans p2.2) _ _ hv) q
end
theorem af_fnB {c : Cx} {A : Around} {H : HL} {K : AV → HL → Prop} {f : Addr} {body : List Stmt} {ds : List AV} (ns : List Str) (k : Nat) (fr : Addr → HL)
    (R : Room (k + 1) A)
    (hbind : ∀ (s : Shared) (vs : List Value), c.K.In s.heap → vs.length = ds.length → BindsTo s (fdOf c.K f) ⟨vs, []⟩ (ns.zip vs))
    (hkind : ∀ n L, n ∈ ns → (fdOf c.K f).scope.names.lookup n = some .local ∨ (fdOf c.K f).scope.names.lookup n = some .cell ∧ ((cellsFrom L (fdOf c.K f).scope.names []).lookup n).isSome = true)
    (hlen : ns.length = ds.length) (hbody : (fdOf c.K f).body = .stmts body) (hfr : ∀ L, frameH (fenv c f L) (ns.zip ds) = fr L)
    (hf : fnIn c.K f = true) (hcd : codeIn c.K (fdOf c.K f).code (fdOf c.K f).qualname = true)
    (hclo : (fdOf c.K f).closure = []) (hnd : ∀ L, ((cellsFrom L (fdOf c.K f).scope.names []).map (·.1)).Nodup)
    (hco : (fdOf c.K f).scope.isCoroutine = false) (hgen : (fdOf c.K f).scope.isGenerator = false) (hk : (fdOf c.K f).scope.kind = .function)
    (h : ∀ L A', Room k A' → ASs c A' (fenv c f L) body (fr L ++ H) (Back K .none) (Back K)) : AF c A f ds H K := by
  obtain ⟨o, ho, hd⟩ := fd_at hf
  refine af_defB ho hd hcd hbody hclo hlen hbind hkind R (fun L R' => ?_) hnd hco hgen hk
  rw [show frameH (callEnvC (fdOf c.K f) L f) (ns.zip ds) = fr L from hfr L]
  exact h L _ R'

end Mine
end
section
open PySem PySem.W PySem.Calls PyProof.Rows
set_option Elab.async false
namespace Mine
section
variable {c : Cx} {A : Around} {env : Env} {H : HL}
/-- a list of the ledger, in a name of the frame's: from now on a value -/
theorem TS.freeze {t : Sem Flow} {L D : Addr} {x : Str} {l : List (Str × AV)} {xs : List AV} {Kn : HL → Prop} {Kr : AV → HL → Prop} (h : TS c A t ((L, .ns ((x, .lst xs) :: l)) :: H) Kn Kr) :
    TS c A t ((D, .lst xs) :: (L, .ns ((x, .adr D) :: l)) :: H) Kn Kr := by
  intro s E Q I P R
  obtain ⟨I₁, S, hv⟩ := I.freeze
  have I₂ : Inv c ((L, .ns ((x, .lst xs) :: l)) :: H) s := by
    refine ⟨I₁.rest, I₁.base, fun p m => ?_, fun p m => ?_, I₁.apart, fun p m => ?_⟩
    · rcases List.mem_cons.mp m with rfl | m
      · exact I₁.off (L, .ns ((x, .adr D) :: l)) (.head _)
      · exact I₁.off p (.tail _ m)
    · rcases List.mem_cons.mp m with rfl | m
      · exact I₁.low (L, .ns ((x, .adr D) :: l)) (.head _)
      · exact I₁.low p (.tail _ m)
    · rcases List.mem_cons.mp m with rfl | m
      · obtain ⟨m, hn, hm⟩ := I₁.ok _ (.head _)
        refine ⟨m, hn, fun y => ?_⟩
        have := hm y
        simp only [List.lookup_cons] at this ⊢
        cases hy : (y == x) with
        | true =>
          rw [hy] at this
          obtain ⟨u, e, hu⟩ := this
          cases hu
          exact ⟨_, e, hv⟩
        | false => rw [hy] at this; exact this
      · exact I₁.ok p (.tail _ m)
  exact h s E Q I₂ (fun s' H' I' S' k => P s' H' I' (S.trans S') k) fun s' v d H' I' S' hv' k => R s' v d H' I' (S.trans S') hv' k
/-- the names of the frame in another order -/
theorem TS.names {t : Sem Flow} {pre post : HL} {L : Addr} {l l' : List (Str × AV)} {Kn : HL → Prop} {Kr : AV → HL → Prop} (h : TS c A t (pre ++ (L, .ns l') :: post) Kn Kr) (e : ∀ x, l.lookup x = l'.lookup x) :
    TS c A t (pre ++ (L, .ns l) :: post) Kn Kr := by
  intro s E Q I P R
  have hd : dom (pre ++ (L, MO.ns l') :: post) = dom (pre ++ (L, MO.ns l) :: post) := by simp [dom]
  refine h s E Q (I.ns_norm e) (fun s' H' I' S' k => P s' H' I' (hd ▸ S') k) fun s' v d H' I' S' hv' k => R s' v d H' I' (hd ▸ S') hv' k
/-- an object of the ledger is forgotten -/
theorem TS.drop {t : Sem Flow} {p : Addr × MO} {Kn : HL → Prop} {Kr : AV → HL → Prop} (h : TS c A t H Kn Kr) : TS c A t (p :: H) Kn Kr := by
  intro s E Q I P R
  have g := I.drop
  exact h s E Q g.1 (fun s' H' I' S' k => P s' H' I' (g.2.trans S') k) fun s' v d H' I' S' hv' k => R s' v d H' I' (g.2.trans S') hv' k
end
end Mine
end
section
open PySem PySem.W PySem.Calls PyProof.Rows
set_option Elab.async false
namespace Mine
section
variable {c : Cx} {A : Around} {env : Env} {H : HL}
theorem go_led {s : Shared} {D : List Addr} {it : Addr} {rest : List AV} {elts : List Expr} {x1 : Nat} {pos : Pos} {v : Value} {Q : Unit → Shared → Prop} {E : Value → Shared → Prop} (x : IterOk s.heap D it rest) (hQ : Q () s) :
    wpAny c.M A (letOwnedTupleGo (.Tuple elts x1 pos) (.ref it) v) Q E s := by
  have key : ∃ o n, s.heap.get? it = some o ∧ o.cls = .type n ∧ (["enumerate", "zip", "dict_itemiterator", "dict_reverseitemiterator", "odict_iterator", "itertools.zip_longest", "itertools.pairwise"].contains n) = false := by
    rcases x with ⟨l, i, vs, n, ⟨o, ho, hc, _⟩, _⟩ | ⟨l, i, vs, n, ⟨o, ho, hc, _⟩, _⟩ | ⟨a, n, e, _⟩
    · exact ⟨o, _, ho, hc, by decide⟩
    · exact ⟨o, _, ho, hc, by decide⟩
    · exact ⟨_, _, e, rfl, by decide⟩
  obtain ⟨o, n, ho, hc, hn⟩ := key
  unfold letOwnedTupleGo
  cases v with
  | ref a =>
    refine wpAny_bind (wpAny_load ho ?_)
    rw [hc]
    cases o.data with
    | fields vs =>
      dsimp only
      rw [hn, Bool.false_and]
      exact wpAny_pure hQ
    | _ => exact wpAny_pure hQ
  | _ => exact wpAny_pure hQ
/-- a for over pairs -/
theorem s_forP {elts : List Expr} {x1 : Nat} {tpos : Pos} {iter : Expr} {body : List Stmt} {pos : Pos} {Kn : HL → Prop} {Kr : AV → HL → Prop} (hh : A.handled = none)
    (h : AE c A env iter H fun d H₁ => ∃ l, itemsOf d = some l ∧ smallR d = true ∧ ∃ J : List AV → HL → Prop, J [] H₁ ∧
      (∀ it done item rest H', l = done ++ item :: rest → J done H' → AA c A env (.Tuple elts x1 tpos) item ((it, .itr rest) :: H') fun H₂ => ASs c A env body H₂ (fun H₃ => ∃ H₄, H₃ = (it, .itr rest) :: H₄ ∧ J (done ++ [item]) H₄) fun _ _ => False) ∧
      (∀ H', J l H' → Kn H'))
    (hs : ∀ x, foldedSetIterable iter env x = pure x := by intro _; with_unfolding_all rfl) : AS c A env (.For (.Tuple elts x1 tpos) iter body [] pos) H Kn Kr := by
  intro s E Q I P _
  refine wpAny_For (h s E _ I fun s₁ xv d H₁ I₁ S₁ hv k => ?_) hs
  obtain ⟨l, hi, hsm, J, j0, turn, fin⟩ := k
  refine iter_start I₁ hv hi hsm fun s₂ it I₂ S₂ => ?_
  refine codeAny_forLoop_any (fun n s' => ∃ done rest H', l = done ++ rest ∧ rest.length = n ∧ J done H' ∧ Inv c ((it, .itr rest) :: H') s' ∧ Step (dom H) s.heap (it :: dom H') s'.heap) ?_ l.length ⟨[], l, H₁, rfl, rfl, j0, I₂, S₁.trans S₂⟩
  rintro n s' ⟨done, rest, H', hl, rfl, hJ, I', S'⟩
  cases rest with
  | nil =>
    rw [List.append_nil] at hl
    subst hl
    refine iter_end I' hh fun s₅ I₅ S₅ => ?_
    exact wpAny_execs_nil (P s₅ H' I₅ (S'.trans S₅) (fin H' hJ))
  | cons item rest =>
    refine iter_next I' fun s₅ v I₅ S₅ hvv => ?_
    refine go_led (c := c) (I₅.ok _ (.head _)) ?_
    refine turn it done item rest H' hl hJ s₅ [v] _ _ I₅ (.one hvv) fun s₆ H₆ I₆ S₆ k₆ => ?_
    refine k₆ s₆ _ _ I₆ (fun s₇ H₇ I₇ S₇ k₇ => ?_) fun _ _ _ _ _ _ _ f => f.elim
    obtain ⟨H₄, rfl, hJ'⟩ := k₇
    exact ⟨rest.length, Nat.lt_succ_self _, done ++ [item], rest, H₄, by rw [hl]; simp, rfl, hJ', I₇, ((S'.trans S₅).trans S₆).trans S₇⟩
end
end Mine
end
section
open PySem PySem.W PySem.Calls PyProof.Rows
set_option Elab.async false
set_option maxRecDepth 100000
set_option maxHeartbeats 4000000
set_option compiler.extract_closed false
namespace Mine
-- the walk's own lines. top_name: a part of an object found; top_raise0: a method found; krn_off: a membership; kp_flats: a name; kas_types: an operation; kat_tups: a store; cell_call: one step; fin_run: steps
local macro_rules | `(tactic| krn_off) => `(tactic| first | exact List.Mem.head _ | exact List.Mem.tail _ (List.Mem.head _) | exact List.Mem.tail _ (List.Mem.tail _ (List.Mem.head _)) | exact List.Mem.tail _ (List.Mem.tail _ (List.Mem.tail _ (List.Mem.head _))) | exact List.Mem.tail _ (List.Mem.tail _ (List.Mem.tail _ (List.Mem.tail _ (List.Mem.head _)))) | exact List.mem_append_right _ (List.Mem.head _) | exact List.Mem.tail _ (List.mem_append_right _ (List.Mem.head _)) | exact List.Mem.tail _ (List.Mem.tail _ (List.mem_append_right _ (List.Mem.head _))) | exact List.Mem.tail _ (List.mem_append_right _ (List.mem_append_right _ (List.Mem.head _))) | exact List.Mem.tail _ (List.Mem.tail _ (List.mem_append_right _ (List.mem_append_right _ (List.Mem.head _)))) | assumption | exact .tail _ (by assumption) | exact .tail _ (.tail _ (by assumption)) | exact .tail _ (.tail _ (.tail _ (by assumption))) | exact .tail _ (.tail _ (.tail _ (.tail _ (by assumption)))) | (refine List.Mem.tail _ (List.Mem.tail _ (List.Mem.tail _ (List.Mem.tail _ (List.Mem.tail _ ?_)))); krn_off) | (simp; done))
local macro_rules | `(tactic| kp_flats) => `(tactic| first
  | (with_reducible refine e_local (by kernel_rfl) (by kernel_rfl) (by with_unfolding_all rfl) (by with_unfolding_all krn_off) (by with_unfolding_all rfl) ?_)
  | (with_reducible refine e_typeA (n := ?fa) ?fb (by kernel_rfl) (by kernel_rfl) (by with_unfolding_all rfl) (by with_unfolding_all rfl) (by decide) ?_; case fb => with_reducible first | exact t_int | exact t_tuple | exact t_list | exact t_range | exact t_dict | exact t_str)
  | (with_reducible refine e_bfunA (n := ?fa) ?fb (by kernel_rfl) (by kernel_rfl) (by with_unfolding_all rfl) (by with_unfolding_all rfl) (by decide) ?_; case fb => with_reducible first | exact f_len | exact f_max | exact f_isinstance | exact f_repr | exact f_sorted)
  | (with_reducible refine e_fg (a := ?fa) ?fb (by kernel_rfl) (by kernel_rfl) (by with_unfolding_all rfl) ?_; case fb => with_reducible first | exact q_law_take | exact q_law_type | exact q_law_operand | exact q_law_bare | exact q_law_regions | exact q_law_one | exact q_operand_with | exact q_with_regions | exact q_parts_of | exact q_rebuilt | exact q_operands_with | exact q_rvalue_with | exact q_statement_with | exact q_callee_with | exact q_terminator_with | exact q_local_types | exact q_renumbered | exact q_Body | exact q_World | exact q_Numbers | exact q_Sig | exact q_law_statement | exact q_law_end | exact q_law_sig | exact q_law_pool | exact q_law_fixed_right | exact q_law)
  | (with_reducible refine e_cell (by kernel_rfl) (by kernel_rfl) (by with_unfolding_all rfl) (by with_unfolding_all krn_off) ?_)
  | (with_reducible refine e_free (by kernel_rfl) (by kernel_rfl) (by with_unfolding_all rfl) (by with_unfolding_all krn_off) ?_))
local macro_rules | `(tactic| kat_tups) => `(tactic| first
  | refine st_local (pre := []) (by kernel_rfl) (by kernel_rfl) ?_ | refine st_local (pre := [_]) (by kernel_rfl) (by kernel_rfl) ?_ | refine st_local (pre := [_, _]) (by kernel_rfl) (by kernel_rfl) ?_)
local macro_rules | `(tactic| kas_types) => `(tactic| first
  | (with_reducible first | refine ob_add ?_ | refine ob_sub ?_ | refine oc_lt ?_ | refine oc_gt ?_ | refine oc_ge ?_ | refine oc_eqs ?_ | refine oc_nes ?_ | refine oc_eq ?_ | refine ou_not ?_ | refine ou_neg ?_ | refine ac_int_int ?_ | refine ac_int_bool ?_)
  | ((with_reducible show OCm _ _ CmpOp.In _ _ _ _); refine oc_in_strs (ys := [_, _]) ?_))
-- none_booked: a test whose answer is plain
local macro_rules | `(tactic| none_booked) => `(tactic| first
  | (with_reducible refine blK (b' := true) (by decide +kernel) ?_; none_booked) | (with_reducible refine blK (b' := false) (by decide +kernel) ?_; none_booked)
  | (with_reducible first | refine ifSK_t ?_ | refine ifSK_f ?_ | refine ifEK_t ?_ | refine ifEK_f ?_ | refine andK_t ?_ | refine andK_f ?_ | refine orK_t ?_ | refine orK_f ?_ | refine ntK_t ?_ | refine ntK_f ?_)
  | (refine ⟨fun _ => ?_, fun hb => Bool.noConfusion (show true = false from hb)⟩) | (refine ⟨fun hb => Bool.noConfusion (show false = true from hb), fun _ => ?_⟩)
  | (refine ⟨fun _ => ?_, fun hb => Bool.noConfusion (show false = true from hb)⟩) | (refine ⟨fun hb => Bool.noConfusion (show true = false from hb), fun _ => ?_⟩))
local macro_rules | `(tactic| cell_call) => `(tactic| first
  | (with_reducible first | refine s_cons ?_ | refine s_nil ?_ | refine s_return ?_ | refine s_if ?_ | refine s_setsub ?_ | refine s_assign ?_ | refine e_binop ?_ | refine e_compare ?_ | refine e_unary ?_ | refine e_ifexp ?_ | refine e_tuple ?_ | refine e_call ?_ | refine e_from ?_ | refine e_upto ?_ | refine e_sub ?_ | refine t_compare ?_ | refine t_not ?_ | refine t_boolop ?_ | refine t_and ?_ | refine t_or ?_ | refine t_and_nil ?_ | refine t_or_nil ?_ | refine l_cons ?_ | refine l_nil ?_ | refine e_int ?_ | refine e_str ?_ | refine e_none ?_ | refine e_bool ?_)
  | ((with_reducible show AE _ _ _ (Expr.Name _ _) _ _); kp_flats)
  | ((with_reducible show ST _ _ _ _ _ _ _); kat_tups) | kas_types | (with_reducible first | refine calK rfl ?_ | refine And.intro rfl ?_ | refine t_of ?_ | refine tupK (Nat.le_of_ble_eq_true (by with_unfolding_all rfl)) ?_ | refine lstK (Nat.le_of_ble_eq_true (by with_unfolding_all rfl)) ?_)
  | (with_reducible refine And.intro (show List.length _ ≤ 1000 from Nat.le_of_ble_eq_true (by with_unfolding_all rfl)) ?_) | none_booked | ((with_reducible show OSub _ _ _ _ _ _ _ _); refine os_tup (by decide) (by with_unfolding_all rfl) (Nat.le_of_ble_eq_true (by with_unfolding_all rfl)) ?_) | fail "no step")
local macro_rules | `(tactic| fin_run) => `(tactic| repeat cell_call)
local macro_rules | `(tactic| top_name) => `(tactic| refine attK (by with_unfolding_all krn_off) (by with_unfolding_all rfl) (by rfl) (by kernel_rfl) (by kernel_rfl) (by kernel_rfl) ?_)
local macro_rules | `(tactic| top_raise0) => `(tactic| refine metK (by with_unfolding_all krn_off) (by with_unfolding_all rfl) ⟨by kernel_rfl, by kernel_rfl, by kernel_rfl, by kernel_rfl, by kernel_rfl, by kernel_rfl, by kernel_rfl, by kernel_rfl, by kernel_rfl⟩ ?_)
section
theorem bits_le {a : Int} (h : a.natAbs < 2 ^ 63) : Builtin.Int.intBits a ≤ 64 := by
  unfold Builtin.Int.intBits
  split
  · omega
  · have : a.natAbs.log2 < 63 := (Nat.log2_lt (by simp_all)).mpr h
    omega
theorem no_pylong {x top : Int} (h : top.natAbs < 2 ^ 63) : Builtin.divisionGoesByPylong x top = false := by
  unfold Builtin.divisionGoesByPylong
  simp only [Bool.and_eq_false_iff, decide_eq_false_iff_not]
  refine .inl ?_
  split
  · omega
  · have : top.natAbs.log2 < 63 := (Nat.log2_lt (by simp_all)).mpr h
    omega
theorem fmod_nn {a b : Int} (h : 0 < b) : 0 ≤ a.fmod b ∧ a.fmod b < b := ⟨Int.fmod_nonneg_of_pos a h, Int.fmod_lt_of_pos a h⟩
theorem fdiv_lt {a b : Int} (h : 0 ≤ a) (hb : 0 < b) : 0 ≤ a.fdiv b ∧ a.fdiv b ≤ a := by
  rw [Int.fdiv_eq_ediv_of_nonneg _ (by omega)]
  exact ⟨Int.ediv_nonneg h (by omega), Int.ediv_le_self _ h⟩
theorem log_fdiv {a b : Int} {n : Nat} (h : 0 ≤ a) (hb : 0 < b) (hl : a.natAbs.log2 < n) : (a.fdiv b).natAbs.log2 < n := by
  have := fdiv_lt h hb
  refine Nat.lt_of_le_of_lt ?_ hl
  have hle : (a.fdiv b).natAbs ≤ a.natAbs := by omega
  by_cases h0 : (a.fdiv b).natAbs = 0
  · rw [h0]; exact Nat.zero_le _
  · exact (Nat.le_log2 (by omega)).mpr (Nat.le_trans (Nat.log2_self_le h0) hle)
theorem take_ok {c : Cx} {A : Around} {sa : Addr} {top : Int} {H : HL} {K : AV → HL → Prop} (hs : (sa, MO.src) ∈ H) (ht : 0 < top) (ht' : top < 1000) (R : Room 1 A)
    (k : ∀ d, 0 ≤ d → d < top → K (.int d) H) : AC c A (.adr 273) [.adr sa, .int top] H K := by
  obtain ⟨pre, post, rfl⟩ := List.append_of_mem hs
  refine AC.src_shut (sa := sa) ?_
  refine ac_fn (c := c) (f := 273) [Str.ofString "source", Str.ofString "top"] 0 (fun L => [(L, .ns [("top", .int top), ("source", .adr sa)])]) R ?hb ?hk rfl rfl ?hfr (by kernel_rfl) (by kernel_rfl) (by kernel_rfl) ?hnd (by kernel_rfl) (by kernel_rfl) (by kernel_rfl) ?h
  case hb => exact len2 fun _ _ => by kernel_rfl
  case hnd => intro L; exact List.nodup_nil
  case hfr => intro L; kernel_rfl
  case hk => intro n L hn; simp only [List.mem_cons, List.not_mem_nil, or_false] at hn; rcases hn with rfl | rfl <;> exact .inl (by kernel_rfl)
  intro L A' R'
  refine TS.src_open (pre := (L, _) :: pre) fun x y h1 h2 h3 h4 => ?_
  have hm : ∀ l x y, (sa, MO.ils [AV.int x, AV.int y]) ∈ ((L, MO.ns l) :: pre) ++ (sa, MO.ils [AV.int x, AV.int y]) :: post := fun _ _ _ => List.mem_append_right _ (.head _)
  have hz : ∀ x y, [AV.int x, AV.int y].length ≤ 10000 := fun _ _ => by simp
  fin_run
  refine os_led (hm _ _ _) (by decide) rfl (hz _ _) ?_
  fin_run
  refine ⟨_, rfl, fun hb => ?_, fun hb => ?_⟩
  · fin_run
    refine os_led (hm _ _ _) (by decide) rfl (hz _ _) ?_
    fin_run
    refine ob_mod (by omega) ?_
    fin_run
    refine os_led (hm _ _ _) (by decide) rfl (hz _ _) ?_
    fin_run
    refine ob_div (by omega) (no_pylong (by omega)) ?_
    fin_run
    refine ⟨sa, [.int x, .int y], 0, (L, _) :: pre, post, rfl, rfl, rfl, by decide, by simp, hz _ _, ?_⟩
    fin_run
    exact ⟨[_], _, .refl _, pre, post, x.fdiv top, y, rfl, (fdiv_lt h1 ht).1, log_fdiv h1 ht h2, h3, h4, k _ (fmod_nn ht).1 (fmod_nn ht).2⟩
  · fin_run
    refine os_led (hm _ _ _) (by decide) rfl (hz _ _) ?_
    unfold drawMax at h4
    fin_run
    refine ob_mul (.of_left (bits_le (by omega))) ?_
    fin_run
    refine ob_mod (by omega) ?_
    have hy := fmod_nn (a := y * 39373 + 7) (b := 2147483647) (by omega)
    generalize (y * 39373 + 7).fmod 2147483647 = y' at hy ⊢
    fin_run
    refine ⟨sa, [.int x, .int y], 1, (L, _) :: pre, post, rfl, rfl, rfl, by decide, by simp, hz _ _, ?_⟩
    fin_run
    refine os_led (hm _ x y') (by decide) rfl (hz _ _) ?_
    fin_run
    refine os_led (hm _ x y') (by decide) rfl (hz _ _) ?_
    fin_run
    refine ob_mul (.of_left (bits_le (by omega))) ?_
    fin_run
    refine ob_mod (by omega) ?_
    fin_run
    refine ob_div (by omega) (no_pylong (by decide)) ?_
    fin_run
    refine ob_mod (by omega) ?_
    exact ⟨[_], _, .refl _, pre, post, x, y', rfl, h1, h2, hy.1, hy.2, k _ (fmod_nn ht).1 (fmod_nn ht).2⟩
end
section
set_option linter.all false
theorem parts_ok {c : Cx} {A : Around} {t : Ty} {H : HL} {K : AV → HL → Prop} (R : Room 1 A) (k : K (.tup ((parts t).map emb)) H) : AC c A (.adr 93) [emb t] H K := by
  refine ac_fn (c := c) (f := 93) [Str.ofString "told"] 0 (fun L => [(L, .ns [("told", emb t)])]) R ?hb ?hk rfl rfl ?hfr (by kernel_rfl) (by kernel_rfl) (by kernel_rfl) ?hnd (by kernel_rfl) (by kernel_rfl) (by kernel_rfl) ?h
  case hb => exact len1 fun _ => by kernel_rfl
  case hnd => intro L; exact List.nodup_nil
  case hfr => intro L; kernel_rfl
  case hk => intro n L hn; simp only [List.mem_cons, List.not_mem_nil, or_false] at hn; rcases hn with rfl; exact .inl (by kernel_rfl)
  intro L A' R'
  have fin : ∀ ns, Back K (.tup ((parts t).map emb)) ([(L, MO.ns ns)] ++ H) := fun ns => ⟨[_], H, .refl _, k⟩
  cases t
  all_goals fin_run
  all_goals first | exact fin _ | exact ⟨by simp, fin _⟩
theorem rebuilt_ok {c : Cx} {A : Around} {t : Ty} {ps : List AV} {H : HL} {K : AV → HL → Prop} (R : Room 1 A) (hp : ps.length = (parts t).length)
    (k : ∀ d, (match t, ps with | .int, [] => d = emb .int | .ref r m _, [p] => d = .tup [.str "ref", r, .bool m, p] | .box _, [p] => d = .tup [.str "box", p] | .arr _, [p] => d = .tup [.str "array", p, .int 2] | .tup _ _, [p, q] => d = .tup [.str "tuple", .tup [p, q]] | .adt r s _, [p] => d = .tup [.str "adt", .str "P", .tup [r, s], .tup [p]] | _, _ => False) → K d H) :
    AC c A (.adr 100) [emb t, .lst ps] H K := by
  refine ac_fn (c := c) (f := 100) [Str.ofString "told", Str.ofString "parts"] 0 (fun L => [(L, .ns [("parts", .lst ps), ("told", emb t)])]) R ?hb ?hk rfl rfl ?hfr (by kernel_rfl) (by kernel_rfl) (by kernel_rfl) ?hnd (by kernel_rfl) (by kernel_rfl) (by kernel_rfl) ?h
  case hb => exact len2 fun _ _ => by kernel_rfl
  case hnd => intro L; exact List.nodup_nil
  case hfr => intro L; kernel_rfl
  case hk => intro n L hn; simp only [List.mem_cons, List.not_mem_nil, or_false] at hn; rcases hn with rfl | rfl <;> exact .inl (by kernel_rfl)
  intro L A' R'
  have fin : ∀ ns d, K d H → Back K d ([(L, MO.ns ns)] ++ H) := fun ns d k => ⟨[_], H, .refl _, k⟩
  cases t with
  | int =>
    obtain rfl : ps = [] := List.length_eq_zero_iff.mp hp
    fin_run
    exact fin _ _ (k _ rfl)
  | ref r m t =>
    obtain ⟨p, rfl⟩ := List.length_eq_one_iff.mp hp
    fin_run
    refine os_lst (by decide) rfl (by simp) ?_
    fin_run
    exact fin _ _ (k _ rfl)
  | box t =>
    obtain ⟨p, rfl⟩ := List.length_eq_one_iff.mp hp
    fin_run
    refine os_lst (by decide) rfl (by simp) ?_
    fin_run
    exact fin _ _ (k _ rfl)
  | arr t =>
    obtain ⟨p, rfl⟩ := List.length_eq_one_iff.mp hp
    fin_run
    refine os_lst (by decide) rfl (by simp) ?_
    fin_run
    exact fin _ _ (k _ rfl)
  | tup a b =>
    obtain ⟨p, q, rfl⟩ : ∃ p q, ps = [p, q] := by
      match ps, hp with
      | [p, q], _ => exact ⟨p, q, rfl⟩
    fin_run
    refine ac_tuple_lst (by simp) ?_
    fin_run
    exact fin _ _ (k _ rfl)
  | adt r s t =>
    obtain ⟨p, rfl⟩ := List.length_eq_one_iff.mp hp
    fin_run
    refine ac_tuple_lst (by simp) ?_
    fin_run
    exact fin _ _ (k _ rfl)
end
section
set_option linter.all false
theorem m_fresh (P : Params) : MethOk (Mine.hd.heap_1 P) 155 "fresh" 126 := ⟨by kernel_rfl, by kernel_rfl, by kernel_rfl, by kernel_rfl, by kernel_rfl, by kernel_rfl, by kernel_rfl, by kernel_rfl, by kernel_rfl⟩
theorem m_told (P : Params) : MethOk (Mine.hd.heap_1 P) 155 "told" 133 := ⟨by kernel_rfl, by kernel_rfl, by kernel_rfl, by kernel_rfl, by kernel_rfl, by kernel_rfl, by kernel_rfl, by kernel_rfl, by kernel_rfl⟩
theorem m_of (P : Params) : MethOk (Mine.hd.heap_1 P) 155 "of" 140 := ⟨by kernel_rfl, by kernel_rfl, by kernel_rfl, by kernel_rfl, by kernel_rfl, by kernel_rfl, by kernel_rfl, by kernel_rfl, by kernel_rfl⟩
theorem m_type_of (P : Params) : MethOk (Mine.hd.heap_1 P) 155 "type_of" 147 := ⟨by kernel_rfl, by kernel_rfl, by kernel_rfl, by kernel_rfl, by kernel_rfl, by kernel_rfl, by kernel_rfl, by kernel_rfl, by kernel_rfl⟩
theorem m_types_of (P : Params) : MethOk (Mine.hd.heap_1 P) 155 "types_of" 152 := ⟨by kernel_rfl, by kernel_rfl, by kernel_rfl, by kernel_rfl, by kernel_rfl, by kernel_rfl, by kernel_rfl, by kernel_rfl, by kernel_rfl⟩
theorem a_count (P : Params) : AttrOk (Mine.hd.heap_1 P) 155 "count" := attrOk_of (by kernel_rfl) (by kernel_rfl) (by kernel_rfl)
theorem a_universal (P : Params) : AttrOk (Mine.hd.heap_1 P) 155 "universal" := attrOk_of (by kernel_rfl) (by kernel_rfl) (by kernel_rfl)
theorem s_count (P : Params) : SetOk (Mine.hd.heap_1 P) 155 "count" := ⟨by kernel_rfl, by kernel_rfl, by kernel_rfl, by kernel_rfl⟩
theorem s_universal (P : Params) : SetOk (Mine.hd.heap_1 P) 155 "universal" := ⟨by kernel_rfl, by kernel_rfl, by kernel_rfl, by kernel_rfl⟩

theorem fresh_ok {c : Cx} {A : Around} {dx ua : Addr} {n : Int} {pre post : HL} {K : AV → HL → Prop} (R : Room 1 A) (k : K (.int n) (pre ++ (dx, nst ua (n + 1)) :: post)) : AF c A 126 [.obj 155 dx] (pre ++ (dx, nst ua n) :: post) K := by
  refine af_fn (c := c) (f := 126) [Str.ofString "self"] 0 (fun L => [(L, .ns [("self", .obj 155 dx)])]) R ?hb ?hk rfl rfl ?hfr (by kernel_rfl) (by kernel_rfl) (by kernel_rfl) ?hnd (by kernel_rfl) (by kernel_rfl) (by kernel_rfl) ?h
  case hb => exact len1 fun _ => by kernel_rfl
  case hnd => intro L; exact List.nodup_nil
  case hfr => intro L; kernel_rfl
  case hk => intro n L hn; simp only [List.mem_cons, List.not_mem_nil, or_false] at hn; rcases hn with rfl; exact .inl (by kernel_rfl)
  intro L A' R'
  refine s_cons (s_setattr (e_binop (e_attr ?_)))
  fin_run
  refine attK2 (l := nsl ua n) (e := .int n) (List.mem_append_right _ (List.mem_append_right _ (.head _))) rfl rfl (a_count _) ?_
  fin_run
  refine saB (nsl ua n) ((L, _) :: pre) (post) rfl (by simp) (s_count _) ?_
  rw [putA_count]
  refine s_cons (s_return (e_binop (e_attr ?_)))
  fin_run
  refine attK2 (l := nsl ua (n + 1)) (e := .int (n + 1)) (by simp) rfl rfl (a_count _) ?_
  fin_run
  refine ⟨[_], _, .refl _, ?_⟩
  rw [show n + 1 - 1 = n by omega]
  exact k
theorem told_in {c : Cx} {A : Around} {dx ua : Addr} {n i : Int} {u : List (Str × AV)} {x : Str} {H : HL} {K : AV → HL → Prop} (R : Room 1 A) (h1 : (dx, nst ua n) ∈ H) (h2 : (ua, MO.dct u) ∈ H) (hx : u.lookup x = some (.int i)) (k : K (.int i) H) : AF c A 133 [.obj 155 dx, .str x] H K := by
  refine af_fn (c := c) (f := 133) [Str.ofString "self", Str.ofString "name"] 0 (fun L => [(L, .ns [("name", .str x), ("self", .obj 155 dx)])]) R ?hb ?hk rfl rfl ?hfr (by kernel_rfl) (by kernel_rfl) (by kernel_rfl) ?hnd (by kernel_rfl) (by kernel_rfl) (by kernel_rfl) ?h
  case hb => exact len2 fun _ _ => by kernel_rfl
  case hnd => intro L; exact List.nodup_nil
  case hfr => intro L; kernel_rfl
  case hk => intro n L hn; simp only [List.mem_cons, List.not_mem_nil, or_false] at hn; rcases hn with rfl | rfl <;> exact .inl (by kernel_rfl)
  intro L A' R'
  have g1 : ∀ z, (dx, nst ua n) ∈ [(L, MO.ns z)] ++ H := fun _ => List.mem_append_right _ h1
  have g2 : ∀ z, (ua, MO.dct u) ∈ [(L, MO.ns z)] ++ H := fun _ => List.mem_append_right _ h2
  refine s_cons (s_if (t_compare ?_))
  fin_run
  refine e_attr ?_
  fin_run
  refine attK2 (l := nsl ua n) (e := .adr ua) (g1 _) rfl rfl (a_universal _) ?_
  refine oc_dnin (g2 _) ?_
  rw [hx]
  refine ⟨false, rfl, fun hb => Bool.noConfusion hb, fun _ => ?_⟩
  fin_run
  refine e_attr ?_
  fin_run
  refine attK2 (l := nsl ua n) (e := .adr ua) (g1 _) rfl rfl (a_universal _) ?_
  fin_run
  refine os_dct (g2 _) hx ?_
  exact ⟨[_], _, .refl _, k⟩
theorem told_new {c : Cx} {A : Around} {dx ua : Addr} {n : Int} {u : List (Str × AV)} {x : Str} {pre post : HL} {K : AV → HL → Prop} (R : Room 2 A) (hx : u.lookup x = none) (hz : u.length ≤ 900) (hl : (putA x (.int n) u).lookup x = some (.int n))
    (k : K (.int n) (pre ++ (dx, nst ua (n + 1)) :: (ua, .dct (putA x (.int n) u)) :: post)) : AF c A 133 [.obj 155 dx, .str x] (pre ++ (dx, nst ua n) :: (ua, .dct u) :: post) K := by
  refine af_fn (c := c) (f := 133) [Str.ofString "self", Str.ofString "name"] 1 (fun L => [(L, .ns [("name", .str x), ("self", .obj 155 dx)])]) R ?hb ?hk rfl rfl ?hfr (by kernel_rfl) (by kernel_rfl) (by kernel_rfl) ?hnd (by kernel_rfl) (by kernel_rfl) (by kernel_rfl) ?h
  case hb => exact len2 fun _ _ => by kernel_rfl
  case hnd => intro L; exact List.nodup_nil
  case hfr => intro L; kernel_rfl
  case hk => intro n L hn; simp only [List.mem_cons, List.not_mem_nil, or_false] at hn; rcases hn with rfl | rfl <;> exact .inl (by kernel_rfl)
  intro L A' R'
  have g1 : ∀ z m u', (dx, nst ua m) ∈ [(L, MO.ns z)] ++ (pre ++ (dx, nst ua m) :: (ua, .dct u') :: post) := fun _ _ _ => List.mem_append_right _ (List.mem_append_right _ (.head _))
  have g2 : ∀ z m u', (ua, MO.dct u') ∈ [(L, MO.ns z)] ++ (pre ++ (dx, nst ua m) :: (ua, .dct u') :: post) := fun _ _ _ => List.mem_append_right _ (List.mem_append_right _ (.tail _ (.head _)))
  refine s_cons (s_if (t_compare ?_))
  fin_run
  refine e_attr ?_
  fin_run
  refine attK2 (l := nsl ua n) (e := .adr ua) (g1 _ _ _) rfl rfl (a_universal _) ?_
  refine oc_dnin (g2 _ _ _) ?_
  rw [hx]
  refine ⟨true, rfl, fun _ => ?_, fun hb => Bool.noConfusion hb⟩
  refine s_cons ?_
  refine s_setkey ?_
  refine e_meth ?_
  fin_run
  refine metK (l := nsl ua n) (g1 _ _ _) rfl (m_fresh _) ?_
  fin_run
  refine AF.ac (fresh_ok (pre := (L, _) :: pre) R' ?_)
  refine e_attr ?_
  fin_run
  refine attK2 (l := nsl ua (n + 1)) (e := .adr ua) (g1 _ _ _) rfl rfl (a_universal _) ?_
  fin_run
  refine ⟨ua, u, x, (L, .ns [("name", .str x), ("self", .obj 155 dx)]) :: (pre ++ [(dx, nst ua (n + 1))]), post, rfl, rfl, by simp, by omega, ?_⟩
  have e : ((L, MO.ns [("name", .str x), ("self", .obj 155 dx)]) :: (pre ++ [(dx, nst ua (n + 1))])) ++ (ua, MO.dct (putA x (.int n) u)) :: post = [(L, MO.ns [("name", .str x), ("self", .obj 155 dx)])] ++ (pre ++ (dx, nst ua (n + 1)) :: (ua, .dct (putA x (.int n) u)) :: post) := by simp
  rw [e]
  fin_run
  refine e_attr ?_
  fin_run
  refine attK2 (l := nsl ua (n + 1)) (e := .adr ua) (g1 _ _ _) rfl rfl (a_universal _) ?_
  fin_run
  refine os_dct (g2 _ _ _) hl ?_
  exact ⟨[_], _, .refl _, k⟩
theorem of_ok {c : Cx} {A : Around} {dx ua : Addr} {n : Int} {u : List (Str × AV)} {r : AV} {pre post : HL} {K : AV → HL → Prop} (R : Room 2 A) (hu : (ua, MO.dct u) ∈ pre ++ post) (hr : goodR u r)
    (k : K (ofR u n r).1 (pre ++ (dx, nst ua (ofR u n r).2) :: post)) : AF c A 140 [.obj 155 dx, r] (pre ++ (dx, nst ua n) :: post) K := by
  have hb : ∀ vs : List Value, vs.length = ([.obj 155 dx, r] : List AV).length → bindArgs (fdOf c.K 140) ⟨vs, []⟩ = pure ([Str.ofString "self", Str.ofString "region"].zip vs) := by
    exact len2 fun _ _ => by kernel_rfl
  refine af_fn (c := c) (f := 140) [Str.ofString "self", Str.ofString "region"] 1 (fun L => [(L, .ns [("region", r), ("self", .obj 155 dx)])]) R hb ?hk rfl rfl ?hfr (by kernel_rfl) (by kernel_rfl) (by kernel_rfl) ?hnd (by kernel_rfl) (by kernel_rfl) (by kernel_rfl) ?h
  case hnd => intro L; exact List.nodup_nil
  case hfr => intro L; kernel_rfl
  case hk => intro n L hn; simp only [List.mem_cons, List.not_mem_nil, or_false] at hn; rcases hn with rfl | rfl <;> exact .inl (by kernel_rfl)
  intro L A' R'
  have g1 : ∀ z m, (dx, nst ua m) ∈ [(L, MO.ns z)] ++ (pre ++ (dx, nst ua m) :: post) := fun _ _ => List.mem_append_right _ (List.mem_append_right _ (.head _))
  have hu' : ∀ m : MO, (ua, MO.dct u) ∈ pre ++ (dx, m) :: post := fun m => by
    rcases List.mem_append.mp hu with h | h
    · exact List.mem_append_left _ h
    · exact List.mem_append_right _ (.tail _ h)
  have g2 : ∀ z m, (ua, MO.dct u) ∈ [(L, MO.ns z)] ++ (pre ++ (dx, m) :: post) := fun _ _ => List.mem_append_right _ (hu' _)
  refine s_cons (s_if (t_compare ?_))
  rcases hr with rfl | ⟨x, i, rfl, hx⟩
  · fin_run
    refine oc_is rfl ?_
    fin_run
    refine e_meth ?_
    fin_run
    refine metK (l := nsl ua n) (g1 _ _) rfl (m_fresh _) ?_
    fin_run
    refine AF.ac (fresh_ok (pre := (L, _) :: pre) (R'.mono (by decide)) ?_)
    exact ⟨[_], _, .refl _, k⟩
  · fin_run
    refine oc_is rfl ?_
    fin_run
    refine ac_isi (T := .int) (d := .str x) (b := false) rfl ?_
    fin_run
    refine e_meth ?_
    fin_run
    refine metK (l := nsl ua n) (g1 _ _) rfl (m_told _) ?_
    fin_run
    refine AF.ac (told_in (n := n) (R'.mono (by decide)) (g1 _ _) (g2 _ _) hx ?_)
    have e : ofR u n (.str x) = (.int i, n) := by simp [ofR, hx]
    rw [e] at k
    exact ⟨[_], _, .refl _, k⟩
end
section
set_option linter.all false
theorem num_adt {u : List (Str × AV)} {n : Int} {r s : AV} {t : Ty} : num u n (.adt r s t) = (.adt (ofR u n r).1 (ofR u (ofR u n r).2 s).1 (num u (ofR u (ofR u n r).2 s).2 t).1, (num u (ofR u (ofR u n r).2 s).2 t).2) := rfl
theorem num_parts {u : List (Str × AV)} : True := trivial
/-- numbers for a row of types, one behind the other -/
noncomputable def numL (u : List (Str × AV)) : Int → List Ty → List Ty × Int
  | n, [] => ([], n)
  | n, t :: ts => ((num u n t).1 :: (numL u (num u n t).2 ts).1, (numL u (num u n t).2 ts).2)
theorem numL_snoc {u : List (Str × AV)} : ∀ {n : Int} {ts : List Ty} {t : Ty}, numL u n (ts ++ [t]) = ((numL u n ts).1 ++ [(num u (numL u n ts).2 t).1], (num u (numL u n ts).2 t).2)
  | n, [], t => rfl
  | n, t' :: ts, t => by
    show (_ :: (numL u (num u n t').2 (ts ++ [t])).1, (numL u (num u n t').2 (ts ++ [t])).2) = _
    rw [numL_snoc]; rfl
theorem numL_length {u : List (Str × AV)} : ∀ {n : Int} {ts : List Ty}, (numL u n ts).1.length = ts.length
  | _, [] => rfl
  | n, t :: ts => by show (_ :: (numL u (num u n t).2 ts).1).length = _; rw [List.length_cons, numL_length]; rfl

noncomputable def ofL (u : List (Str × AV)) : Int → List AV → List AV × Int
  | n, [] => ([], n)
  | n, r :: rs => ((ofR u n r).1 :: (ofL u (ofR u n r).2 rs).1, (ofL u (ofR u n r).2 rs).2)
theorem ofL_snoc {u : List (Str × AV)} : ∀ {n : Int} {rs : List AV} {r : AV}, ofL u n (rs ++ [r]) = ((ofL u n rs).1 ++ [(ofR u (ofL u n rs).2 r).1], (ofR u (ofL u n rs).2 r).2)
  | n, [], r => rfl
  | n, r' :: rs, r => by
    show (_ :: (ofL u (ofR u n r').2 (rs ++ [r])).1, (ofL u (ofR u n r').2 (rs ++ [r])).2) = _
    rw [ofL_snoc]; rfl
theorem split_map {α : Type} {f : α → AV} {xs : List α} {done : List AV} {item : AV} {rest : List AV} (h : xs.map f = done ++ item :: rest) : ∃ x, x ∈ xs ∧ item = f x ∧ xs.take (done.length + 1) = xs.take done.length ++ [x] := by
  have hl : done.length < xs.length := by
    have := congrArg List.length h
    simp at this; omega
  refine ⟨xs[done.length], List.getElem_mem hl, ?_, ?_⟩
  · have := congrArg (·[done.length]?) h
    simp only [List.getElem?_map, List.getElem?_append_right (Nat.le_refl _), Nat.sub_self, List.getElem?_cons_zero, List.getElem?_eq_getElem hl, Option.map_some] at this
    exact (Option.some.inj this).symm
  · rw [List.take_add_one, List.getElem?_eq_getElem hl]; rfl
theorem Back.frame {K : AV → HL → Prop} {d : AV} {fr H : HL} (k : K d H) : Back K d (fr ++ H) := ⟨fr, H, .refl _, k⟩

theorem TS.mono {c : Cx} {A : Around} {t : Sem Flow} {H : HL} {Kn Kn' : HL → Prop} {Kr : AV → HL → Prop} (x : TS c A t H Kn Kr) (k : ∀ H', Kn H' → Kn' H') : TS c A t H Kn' Kr :=
  fun s E Q I P R => x s E Q I (fun s' H' I' S q => P s' H' I' S (k H' q)) R
/-- what holds between two statements -/
theorem s_cut {c : Cx} {A : Around} {env : Env} {st : Stmt} {r : List Stmt} {H : HL} {Kn : HL → Prop} {Kr : AV → HL → Prop} (J : HL → Prop) (h1 : AS c A env st H J Kr) (h2 : ∀ H₁, J H₁ → ASs c A env r H₁ Kn Kr) : ASs c A env (st :: r) H Kn Kr :=
  s_cons (TS.mono h1 h2)
noncomputable def rebC (t : Ty) (ps : List AV) (d : AV) : Prop := match t, ps with | .int, [] => d = emb .int | .ref r m _, [p] => d = .tup [.str "ref", r, .bool m, p] | .box _, [p] => d = .tup [.str "box", p] | .arr _, [p] => d = .tup [.str "array", p, .int 2] | .tup _ _, [p, q] => d = .tup [.str "tuple", .tup [p, q]] | .adt r s _, [p] => d = .tup [.str "adt", .str "P", .tup [r, s], .tup [p]] | _, _ => False

theorem with_ok {c : Cx} {dx ua : Addr} {u : List (Str × AV)} : ∀ (k : Nat) (A : Around) (t : Ty) (n : Int) (pre post : HL) (K : AV → HL → Prop), dep t < k → Room (k + 5) A → (ua, MO.dct u) ∈ pre ++ post → goodT u t →
    K (emb (num u n t).1) (pre ++ (dx, nst ua (num u n t).2) :: post) → AF c A 105 [emb t, .mth 140 (.obj 155 dx)] (pre ++ (dx, nst ua n) :: post) K := by
  intro k
  induction k with
  | zero => intro A t n pre post K h; omega
  | succ k ih =>
    intro A t n pre post K hd R hu hg kk
    refine af_fn (c := c) (f := 105) [Str.ofString "told", Str.ofString "change"] (k + 5) (fun L => [(L, .ns [("told", emb t)]), (L + 1, .cell (some (.mth 140 (.obj 155 dx))))]) R ?hb ?hk rfl rfl ?hfr (by kernel_rfl) (by kernel_rfl) (by kernel_rfl) ?hnd (by kernel_rfl) (by kernel_rfl) (by kernel_rfl) ?h
    case hb => exact len2 fun _ _ => by kernel_rfl
    case hnd => intro L; exact List.nodup_cons.mpr ⟨List.not_mem_nil, List.nodup_nil⟩
    case hfr => intro L; kernel_rfl
    case hk =>
      intro n L hn; simp only [List.mem_cons, List.not_mem_nil, or_false] at hn
      rcases hn with rfl | rfl
      · exact .inl (by kernel_rfl)
      · exact .inr ⟨by kernel_rfl, by kernel_rfl⟩
    intro L A' R'
    have hu' : ∀ fr : HL, (ua, MO.dct u) ∈ (fr ++ pre) ++ post := fun fr => by
      rw [List.append_assoc]; exact List.mem_append_right _ hu
    refine s_cut (fun H₁ => ∃ t' n' ns, H₁ = [(L, .ns (("told", emb t') :: ns)), (L + 1, .cell (some (.mth 140 (.obj 155 dx))))] ++ (pre ++ (dx, nst ua n') :: post) ∧ (∀ p ∈ parts t', dep p < k ∧ goodT u p) ∧
      ∀ d, rebC t' ((numL u n' (parts t')).1.map emb) d → K d (pre ++ (dx, nst ua (numL u n' (parts t')).2) :: post)) ?_ ?_
    · cases t with
      | int =>
        fin_run
        exact ⟨.int, n, [], rfl, fun p hp => by simp [parts] at hp, fun d hd => by cases hd; exact kk⟩
      | box t =>
        fin_run
        exact ⟨.box t, n, [], rfl, fun p hp => by simp only [parts, List.mem_singleton] at hp; subst hp; exact ⟨by simp only [dep] at hd; omega, hg⟩, fun d hd => by cases hd; exact kk⟩
      | arr t =>
        fin_run
        exact ⟨.arr t, n, [], rfl, fun p hp => by simp only [parts, List.mem_singleton] at hp; subst hp; exact ⟨by simp only [dep] at hd; omega, hg⟩, fun d hd => by cases hd; exact kk⟩
      | tup a b =>
        fin_run
        refine ⟨.tup a b, n, [], rfl, fun p hp => ?_, fun d hd => by cases hd; exact kk⟩
        simp only [parts, List.mem_cons, List.not_mem_nil, or_false] at hp
        simp only [dep] at hd
        rcases hp with rfl | rfl
        · exact ⟨by omega, hg.1⟩
        · exact ⟨by omega, hg.2⟩
      | ref r m t =>
        fin_run
        refine ac_mth (of_ok (pre := [(L, _), (L + 1, _)] ++ pre) (R'.mono (by omega)) (hu' _) hg.1 ?_)
        fin_run
        refine ⟨.ref (ofR u n r).1 m t, (ofR u n r).2, _, rfl, fun p hp => by simp only [parts, List.mem_singleton] at hp; subst hp; exact ⟨by simp only [dep] at hd; omega, hg.2⟩, fun d hd => by cases hd; exact kk⟩
      | adt r s t =>
        fin_run
        refine e_comp (R'.handled) (by with_unfolding_all rfl) (by decide +kernel) (by kernel_rfl) (by decide +kernel) (by kernel_rfl) ?_
        fin_run
        refine ⟨[r, s], rfl, rfl, by simp, fun done acc H' => acc = (ofL u n done).1 ∧ H' = [(L, .ns [("told", emb (.adt r s t))]), (L + 1, .cell (some (.mth 140 (.obj 155 dx))))] ++ (pre ++ (dx, nst ua (ofL u n done).2) :: post), ⟨rfl, rfl⟩, ?_, ?_⟩
        · rintro C it D done item rest acc H' hl ⟨rfl, rfl⟩
          fin_run
          have hi : goodR u item := by
            have : item ∈ [r, s] := by rw [hl]; simp
            simp only [List.mem_cons, List.not_mem_nil, or_false] at this
            rcases this with rfl | rfl
            · exact hg.1
            · exact hg.2.1
          refine ac_mth (of_ok (pre := [(C, _), (it, _), (D, _), (L, _), (L + 1, _)] ++ pre) (R'.mono (by omega)) (hu' _) hi ?_)
          refine ⟨_, rfl, ?_⟩
          show _ ∧ _
          rw [ofL_snoc]
          exact ⟨rfl, rfl⟩
        · rintro acc H' ⟨rfl, rfl⟩ _
          fin_run
          refine ac_tuple_lst ?_ ?_
          · show (ofL u n [r, s]).1.length ≤ 10000
            simp [ofL]
          fin_run
          refine ⟨.adt (ofR u n r).1 (ofR u (ofR u n r).2 s).1 t, (ofR u (ofR u n r).2 s).2, _, rfl, fun p hp => by simp only [parts, List.mem_singleton] at hp; subst hp; exact ⟨by simp only [dep] at hd; omega, hg.2.2⟩, fun d hd => by cases hd; exact kk⟩
    · rintro H₁ ⟨t', n', ns, rfl, hp, hk⟩
      fin_run
      refine e_comp (R'.handled) (by with_unfolding_all rfl) (by decide +kernel) (by kernel_rfl) (by decide +kernel) (by kernel_rfl) ?_
      fin_run
      refine parts_ok (R'.mono (by omega)) ?_
      have hlen : (parts t').length ≤ 2 := by cases t' <;> simp [parts]
      refine ⟨(parts t').map emb, rfl, rfl, by simp; omega, fun done acc H' => acc = (numL u n' ((parts t').take done.length)).1.map emb ∧ H' = [(L, .ns (("told", emb t') :: ns)), (L + 1, .cell (some (.mth 140 (.obj 155 dx))))] ++ (pre ++ (dx, nst ua (numL u n' ((parts t').take done.length)).2) :: post), ⟨rfl, rfl⟩, ?_, ?_⟩
      · rintro C it D done item rest acc H' hl ⟨rfl, rfl⟩
        obtain ⟨x, hx, rfl, ht⟩ := split_map hl
        fin_run
        refine AF.ac (ih _ x _ ([(C, _), (it, _), (D, _), (L, _), (L + 1, _)] ++ pre) post _ (hp x hx).1 (R'.mono (by omega)) (hu' _) (hp x hx).2 ?_)
        refine ⟨_, rfl, ?_⟩
        show _ ∧ _
        rw [List.length_append, List.length_singleton, ht, numL_snoc, List.map_append]
        exact ⟨rfl, rfl⟩
      · rintro acc H' ⟨rfl, rfl⟩ hacc
        fin_run
        have e : (parts t').take ((parts t').map emb).length = parts t' := by rw [List.length_map, List.take_length]
        rw [e]
        refine rebuilt_ok (R'.mono (by omega)) (by rw [List.length_map, numL_length]) fun d hd => ?_
        exact Back.frame (hk d hd)
end
section
set_option linter.all false
theorem mem_at {x : Addr × MO} {fr pre post : HL} : x ∈ fr ++ (pre ++ x :: post) := List.mem_append_right _ (List.mem_append_right _ (.head _))
/-- a type of the numbers -/
theorem type_of_ok {c : Cx} {A : Around} {dx ua : Addr} {u : List (Str × AV)} {t : Ty} {n : Int} {k : Nat} {pre post : HL} {K : AV → HL → Prop} (hd : dep t < k) (R : Room (k + 6) A) (hu : (ua, MO.dct u) ∈ pre ++ post) (hg : goodT u t)
    (kk : K (emb (num u n t).1) (pre ++ (dx, nst ua (num u n t).2) :: post)) : AF c A 147 [.obj 155 dx, emb t] (pre ++ (dx, nst ua n) :: post) K := by
  refine af_fn (c := c) (f := 147) [Str.ofString "self", Str.ofString "told"] (k + 5) (fun L => [(L, .ns [("told", emb t), ("self", .obj 155 dx)])]) R ?hb ?hk rfl rfl ?hfr (by kernel_rfl) (by kernel_rfl) (by kernel_rfl) ?hnd (by kernel_rfl) (by kernel_rfl) (by kernel_rfl) ?h
  case hb => exact len2 fun _ _ => by kernel_rfl
  case hnd => intro L; exact List.nodup_nil
  case hfr => intro L; kernel_rfl
  case hk => intro n L hn; simp only [List.mem_cons, List.not_mem_nil, or_false] at hn; rcases hn with rfl | rfl <;> exact .inl (by kernel_rfl)
  intro L A' R'
  fin_run
  refine e_bound ?_
  fin_run
  refine ⟨155, dx, nsl ua n, 140, rfl, List.mem_append_right _ (List.mem_append_right _ (.head _)), rfl, m_of _, ?_⟩
  fin_run
  refine AF.ac (with_ok k _ t n ([(L, _)] ++ pre) post _ hd R' (by rw [List.append_assoc]; exact List.mem_append_right _ hu) hg ?_)
  exact Back.frame (fr := [_]) kk
theorem types_of_ok {c : Cx} {A : Around} {dx ua : Addr} {u : List (Str × AV)} {ts : List Ty} {n : Int} {k : Nat} {pre post : HL} {K : AV → HL → Prop} (hd : ∀ t ∈ ts, dep t < k ∧ goodT u t) (hz : ts.length ≤ 10000) (R : Room (k + 7) A) (hu : (ua, MO.dct u) ∈ pre ++ post)
    (kk : K (.tup ((numL u n ts).1.map emb)) (pre ++ (dx, nst ua (numL u n ts).2) :: post)) : AF c A 152 [.obj 155 dx, .tup (ts.map emb)] (pre ++ (dx, nst ua n) :: post) K := by
  refine af_fn (c := c) (f := 152) [Str.ofString "self", Str.ofString "row"] (k + 6) (fun L => [(L, .ns [("row", .tup (ts.map emb))]), (L + 1, .cell (some (.obj 155 dx)))]) R ?hb ?hk rfl rfl ?hfr (by kernel_rfl) (by kernel_rfl) (by kernel_rfl) ?hnd (by kernel_rfl) (by kernel_rfl) (by kernel_rfl) ?h
  case hb => exact len2 fun _ _ => by kernel_rfl
  case hnd => intro L; exact List.nodup_cons.mpr ⟨List.not_mem_nil, List.nodup_nil⟩
  case hfr => intro L; kernel_rfl
  case hk =>
    intro n L hn; simp only [List.mem_cons, List.not_mem_nil, or_false] at hn
    rcases hn with rfl | rfl
    · exact .inr ⟨by kernel_rfl, by kernel_rfl⟩
    · exact .inl (by kernel_rfl)
  intro L A' R'
  have hu' : ∀ fr : HL, (ua, MO.dct u) ∈ (fr ++ pre) ++ post := fun fr => by
    rw [List.append_assoc]; exact List.mem_append_right _ hu
  fin_run
  refine e_comp (R'.handled) (by with_unfolding_all rfl) (by decide +kernel) (by kernel_rfl) (by decide +kernel) (by kernel_rfl) ?_
  fin_run
  refine ⟨ts.map emb, rfl, rfl, by simpa using hz, fun done acc H' => acc = (numL u n (ts.take done.length)).1.map emb ∧ H' = [(L, .ns [("row", .tup (ts.map emb))]), (L + 1, .cell (some (.obj 155 dx)))] ++ (pre ++ (dx, nst ua (numL u n (ts.take done.length)).2) :: post), ⟨rfl, rfl⟩, ?_, ?_⟩
  · rintro C it D done item rest acc H' hl ⟨rfl, rfl⟩
    obtain ⟨x, hx, rfl, ht⟩ := split_map hl
    refine e_meth ?_
    fin_run
    refine metK (l := nsl ua _) (.tail _ (.tail _ (.tail _ mem_at))) rfl (m_type_of _) ?_
    fin_run
    refine AF.ac (type_of_ok (pre := [(C, _), (it, _), (D, _), (L, _), (L + 1, _)] ++ pre) (hd x hx).1 R' (hu' _) (hd x hx).2 ?_)
    refine ⟨_, rfl, ?_⟩
    show _ ∧ _
    rw [List.length_append, List.length_singleton, ht, numL_snoc, List.map_append]
    exact ⟨rfl, rfl⟩
  · rintro acc H' ⟨rfl, rfl⟩ hacc
    have e : ts.take (ts.map emb).length = ts := by rw [List.length_map, List.take_length]
    rw [e]
    fin_run
    refine ac_tuple_lst ?_ ?_
    · rw [List.length_map, numL_length]; exact hz
    · exact Back.frame (fr := [_, _]) kk

/-! operands and what is made of them -/
inductive Op where
  | copy (i : Int) | move | const (t : Ty)
noncomputable def embO : Op → AV
  | .copy i => .tup [.str "copy", .tup [.int i, .tup []]]
  | .move => .tup [.str "move", .tup [.int 2, .tup [.tup [.str "deref"]]]]
  | .const t => .tup [.str "const", emb t, .int 7]
noncomputable def numO (u : List (Str × AV)) (n : Int) : Op → Op × Int
  | .const t => (.const (num u n t).1, (num u n t).2)
  | o => (o, n)
noncomputable def goodO (u : List (Str × AV)) (k : Nat) : Op → Prop
  | .const t => goodT u t ∧ dep t < k
  | _ => True
noncomputable def numOs (u : List (Str × AV)) : Int → List Op → List Op × Int
  | n, [] => ([], n)
  | n, o :: os => ((numO u n o).1 :: (numOs u (numO u n o).2 os).1, (numOs u (numO u n o).2 os).2)
theorem numOs_snoc {u : List (Str × AV)} : ∀ {n : Int} {ts : List Op} {t : Op}, numOs u n (ts ++ [t]) = ((numOs u n ts).1 ++ [(numO u (numOs u n ts).2 t).1], (numO u (numOs u n ts).2 t).2)
  | n, [], t => rfl
  | n, t' :: ts, t => by
    show (_ :: (numOs u (numO u n t').2 (ts ++ [t])).1, (numOs u (numO u n t').2 (ts ++ [t])).2) = _
    rw [numOs_snoc]; rfl
theorem numOs_length {u : List (Str × AV)} : ∀ {n : Int} {ts : List Op}, (numOs u n ts).1.length = ts.length
  | _, [] => rfl
  | n, t :: ts => by show (_ :: (numOs u (numO u n t).2 ts).1).length = _; rw [List.length_cons, numOs_length]; rfl
theorem operand_ok {c : Cx} {A : Around} {dx ua : Addr} {u : List (Str × AV)} {o : Op} {n : Int} {k : Nat} {pre post : HL} {K : AV → HL → Prop} (R : Room (k + 7) A) (hu : (ua, MO.dct u) ∈ pre ++ post) (hg : goodO u k o)
    (kk : K (embO (numO u n o).1) (pre ++ (dx, nst ua (numO u n o).2) :: post)) : AC c A (.adr 166) [.obj 155 dx, embO o] (pre ++ (dx, nst ua n) :: post) K := by
  refine ac_fn (c := c) (f := 166) [Str.ofString "numbers", Str.ofString "operand"] (k + 6) (fun L => [(L, .ns [("operand", embO o), ("numbers", .obj 155 dx)])]) R ?hb ?hk rfl rfl ?hfr (by kernel_rfl) (by kernel_rfl) (by kernel_rfl) ?hnd (by kernel_rfl) (by kernel_rfl) (by kernel_rfl) ?h
  case hb => exact len2 fun _ _ => by kernel_rfl
  case hnd => intro L; exact List.nodup_nil
  case hfr => intro L; kernel_rfl
  case hk => intro n L hn; simp only [List.mem_cons, List.not_mem_nil, or_false] at hn; rcases hn with rfl | rfl <;> exact .inl (by kernel_rfl)
  intro L A' R'
  cases o with
  | copy i =>
    fin_run
    exact Back.frame (fr := [_]) kk
  | move =>
    fin_run
    exact Back.frame (fr := [_]) kk
  | const t =>
    fin_run
    refine e_meth ?_
    fin_run
    refine metK (l := nsl ua _) (mem_at) rfl (m_type_of _) ?_
    fin_run
    refine AF.ac (type_of_ok (pre := [(L, _)] ++ pre) hg.2 R' (by rw [List.append_assoc]; exact List.mem_append_right _ hu) hg.1 ?_)
    fin_run
    exact Back.frame (fr := [_]) kk
theorem operands_ok {c : Cx} {A : Around} {dx ua : Addr} {u : List (Str × AV)} {os : List Op} {n : Int} {k : Nat} {pre post : HL} {K : AV → HL → Prop} (R : Room (k + 8) A) (hu : (ua, MO.dct u) ∈ pre ++ post) (hg : ∀ o ∈ os, goodO u k o) (hz : os.length ≤ 10000)
    (kk : K (.tup ((numOs u n os).1.map embO)) (pre ++ (dx, nst ua (numOs u n os).2) :: post)) : AC c A (.adr 171) [.obj 155 dx, .tup (os.map embO)] (pre ++ (dx, nst ua n) :: post) K := by
  refine ac_fn (c := c) (f := 171) [Str.ofString "numbers", Str.ofString "operands"] (k + 7) (fun L => [(L, .ns [("operands", .tup (os.map embO))]), (L + 1, .cell (some (.obj 155 dx)))]) R ?hb ?hk rfl rfl ?hfr (by kernel_rfl) (by kernel_rfl) (by kernel_rfl) ?hnd (by kernel_rfl) (by kernel_rfl) (by kernel_rfl) ?h
  case hb => exact len2 fun _ _ => by kernel_rfl
  case hnd => intro L; exact List.nodup_cons.mpr ⟨List.not_mem_nil, List.nodup_nil⟩
  case hfr => intro L; kernel_rfl
  case hk =>
    intro n L hn; simp only [List.mem_cons, List.not_mem_nil, or_false] at hn
    rcases hn with rfl | rfl
    · exact .inr ⟨by kernel_rfl, by kernel_rfl⟩
    · exact .inl (by kernel_rfl)
  intro L A' R'
  have hu' : ∀ fr : HL, (ua, MO.dct u) ∈ (fr ++ pre) ++ post := fun fr => by
    rw [List.append_assoc]; exact List.mem_append_right _ hu
  fin_run
  refine e_comp (R'.handled) (by with_unfolding_all rfl) (by decide +kernel) (by kernel_rfl) (by decide +kernel) (by kernel_rfl) ?_
  fin_run
  refine ⟨os.map embO, rfl, rfl, by simpa using hz, fun done acc H' => acc = (numOs u n (os.take done.length)).1.map embO ∧ H' = [(L, .ns [("operands", .tup (os.map embO))]), (L + 1, .cell (some (.obj 155 dx)))] ++ (pre ++ (dx, nst ua (numOs u n (os.take done.length)).2) :: post), ⟨rfl, rfl⟩, ?_, ?_⟩
  · rintro C it D done item rest acc H' hl ⟨rfl, rfl⟩
    obtain ⟨x, hx, rfl, ht⟩ := split_map hl
    fin_run
    refine operand_ok (k := k) (pre := [(C, _), (it, _), (D, _), (L, _), (L + 1, _)] ++ pre) R' (hu' _) (hg x hx) ?_
    refine ⟨_, rfl, ?_⟩
    show _ ∧ _
    rw [List.length_append, List.length_singleton, ht, numOs_snoc, List.map_append]
    exact ⟨rfl, rfl⟩
  · rintro acc H' ⟨rfl, rfl⟩ hacc
    have e : os.take (os.map embO).length = os := by rw [List.length_map, List.take_length]
    rw [e]
    fin_run
    refine ac_tuple_lst ?_ ?_
    · rw [List.length_map, numOs_length]; exact hz
    · exact Back.frame (fr := [_, _]) kk
end
section
set_option linter.all false
inductive Rv where
  | ref (r : AV) (m : Str) (p : AV) | use (o : Op) | box (o : Op) | bin (a b : Op) | cast (o : Op) (t : Ty) | tup (os : List Op) | adt (t : Ty) (os : List Op)
noncomputable def embR : Rv → AV
  | .ref r m p => .tup [.str "ref", r, .str m, p]
  | .use o => .tup [.str "use", embO o]
  | .box o => .tup [.str "box", embO o]
  | .bin a b => .tup [.str "binary", .str "+", embO a, embO b]
  | .cast o t => .tup [.str "cast", embO o, emb t]
  | .tup os => .tup [.str "tuple", .tup (os.map embO)]
  | .adt t os => .tup [.str "adt", emb t, .int 0, .tup (os.map embO)]
noncomputable def numR (u : List (Str × AV)) (n : Int) : Rv → Rv × Int
  | .ref r m p => (.ref (ofR u n r).1 m p, (ofR u n r).2)
  | .use o => (.use (numO u n o).1, (numO u n o).2)
  | .box o => (.box (numO u n o).1, (numO u n o).2)
  | .bin a b => (.bin (numO u n a).1 (numO u (numO u n a).2 b).1, (numO u (numO u n a).2 b).2)
  | .cast o t => (.cast (numO u n o).1 (num u (numO u n o).2 t).1, (num u (numO u n o).2 t).2)
  | .tup os => (.tup (numOs u n os).1, (numOs u n os).2)
  | .adt t os => (.adt (num u n t).1 (numOs u (num u n t).2 os).1, (numOs u (num u n t).2 os).2)
noncomputable def goodRv (u : List (Str × AV)) (k : Nat) : Rv → Prop
  | .ref r _ _ => goodR u r
  | .use o => goodO u k o
  | .box o => goodO u k o
  | .bin a b => goodO u k a ∧ goodO u k b
  | .cast o t => goodO u k o ∧ goodT u t ∧ dep t < k
  | .tup os => (∀ o ∈ os, goodO u k o) ∧ os.length ≤ 10000
  | .adt t os => (goodT u t ∧ dep t < k) ∧ (∀ o ∈ os, goodO u k o) ∧ os.length ≤ 10000
theorem rvalue_ok {c : Cx} {A : Around} {dx ua : Addr} {u : List (Str × AV)} {v : Rv} {n : Int} {k : Nat} {pre post : HL} {K : AV → HL → Prop} (R : Room (k + 9) A) (hu : (ua, MO.dct u) ∈ pre ++ post) (hg : goodRv u k v)
    (kk : K (embR (numR u n v).1) (pre ++ (dx, nst ua (numR u n v).2) :: post)) : AC c A (.adr 178) [.obj 155 dx, embR v] (pre ++ (dx, nst ua n) :: post) K := by
  refine ac_fn (c := c) (f := 178) [Str.ofString "numbers", Str.ofString "rvalue"] (k + 8) (fun L => [(L, .ns [("rvalue", embR v), ("numbers", .obj 155 dx)])]) R ?hb ?hk rfl rfl ?hfr (by kernel_rfl) (by kernel_rfl) (by kernel_rfl) ?hnd (by kernel_rfl) (by kernel_rfl) (by kernel_rfl) ?h
  case hb => exact len2 fun _ _ => by kernel_rfl
  case hnd => intro L; exact List.nodup_nil
  case hfr => intro L; kernel_rfl
  case hk => intro n L hn; simp only [List.mem_cons, List.not_mem_nil, or_false] at hn; rcases hn with rfl | rfl <;> exact .inl (by kernel_rfl)
  intro L A' R'
  have hu' : ∀ fr : HL, (ua, MO.dct u) ∈ (fr ++ pre) ++ post := fun fr => by
    rw [List.append_assoc]; exact List.mem_append_right _ hu
  cases v with
  | ref r m p =>
    fin_run
    refine e_meth ?_
    fin_run
    refine metK (l := nsl ua _) (by with_unfolding_all krn_off) rfl (m_of _) ?_
    fin_run
    refine AF.ac (of_ok (pre := [(L, _)] ++ pre) (R'.mono (by omega)) (hu' _) hg ?_)
    fin_run
    exact Back.frame (fr := [_]) kk
  | use o =>
    fin_run
    refine operand_ok (k := k) (pre := [(L, _)] ++ pre) (R'.mono (by omega)) (hu' _) hg ?_
    fin_run
    exact Back.frame (fr := [_]) kk
  | box o =>
    fin_run
    refine operand_ok (k := k) (pre := [(L, _)] ++ pre) (R'.mono (by omega)) (hu' _) hg ?_
    fin_run
    exact Back.frame (fr := [_]) kk
  | bin a b =>
    fin_run
    refine operand_ok (k := k) (pre := [(L, _)] ++ pre) (R'.mono (by omega)) (hu' _) hg.1 ?_
    fin_run
    refine operand_ok (k := k) (pre := [(L, _)] ++ pre) (R'.mono (by omega)) (hu' _) hg.2 ?_
    fin_run
    exact Back.frame (fr := [_]) kk
  | cast o t =>
    fin_run
    refine operand_ok (k := k) (pre := [(L, _)] ++ pre) (R'.mono (by omega)) (hu' _) hg.1 ?_
    fin_run
    refine e_meth ?_
    fin_run
    refine metK (l := nsl ua _) (by with_unfolding_all krn_off) rfl (m_type_of _) ?_
    fin_run
    refine AF.ac (type_of_ok (pre := [(L, _)] ++ pre) hg.2.2 (R'.mono (by omega)) (hu' _) hg.2.1 ?_)
    fin_run
    exact Back.frame (fr := [_]) kk
  | tup os =>
    fin_run
    refine operands_ok (k := k) (pre := [(L, _)] ++ pre) (R'.mono (by omega)) (hu' _) hg.1 hg.2 ?_
    fin_run
    exact Back.frame (fr := [_]) kk
  | adt t os =>
    fin_run
    refine e_meth ?_
    fin_run
    refine metK (l := nsl ua _) (by with_unfolding_all krn_off) rfl (m_type_of _) ?_
    fin_run
    refine AF.ac (type_of_ok (pre := [(L, _)] ++ pre) hg.1.2 (R'.mono (by omega)) (hu' _) hg.1.1 ?_)
    fin_run
    refine operands_ok (k := k) (pre := [(L, _)] ++ pre) (R'.mono (by omega)) (hu' _) hg.2.1 hg.2.2 ?_
    fin_run
    exact Back.frame (fr := [_]) kk
inductive Stm where
  | live | assign (v : Rv) | print (o : Op)
noncomputable def embS : Stm → AV
  | .live => .tup [.str "live", .int 0]
  | .assign v => .tup [.str "assign", .tup [.int 0, .tup []], embR v]
  | .print o => .tup [.str "print", embO o]
noncomputable def numS (u : List (Str × AV)) (n : Int) : Stm → Stm × Int
  | .live => (.live, n)
  | .assign v => (.assign (numR u n v).1, (numR u n v).2)
  | .print o => (.print (numO u n o).1, (numO u n o).2)
noncomputable def goodS (u : List (Str × AV)) (k : Nat) : Stm → Prop
  | .live => True
  | .assign v => goodRv u k v
  | .print o => goodO u k o
theorem statement_ok {c : Cx} {A : Around} {dx ua : Addr} {u : List (Str × AV)} {v : Stm} {n : Int} {k : Nat} {pre post : HL} {K : AV → HL → Prop} (R : Room (k + 10) A) (hu : (ua, MO.dct u) ∈ pre ++ post) (hg : goodS u k v)
    (kk : K (embS (numS u n v).1) (pre ++ (dx, nst ua (numS u n v).2) :: post)) : AC c A (.adr 185) [.obj 155 dx, embS v] (pre ++ (dx, nst ua n) :: post) K := by
  refine ac_fn (c := c) (f := 185) [Str.ofString "numbers", Str.ofString "statement"] (k + 9) (fun L => [(L, .ns [("statement", embS v), ("numbers", .obj 155 dx)])]) R ?hb ?hk rfl rfl ?hfr (by kernel_rfl) (by kernel_rfl) (by kernel_rfl) ?hnd (by kernel_rfl) (by kernel_rfl) (by kernel_rfl) ?h
  case hb => exact len2 fun _ _ => by kernel_rfl
  case hnd => intro L; exact List.nodup_nil
  case hfr => intro L; kernel_rfl
  case hk => intro n L hn; simp only [List.mem_cons, List.not_mem_nil, or_false] at hn; rcases hn with rfl | rfl <;> exact .inl (by kernel_rfl)
  intro L A' R'
  have hu' : ∀ fr : HL, (ua, MO.dct u) ∈ (fr ++ pre) ++ post := fun fr => by
    rw [List.append_assoc]; exact List.mem_append_right _ hu
  cases v with
  | live =>
    fin_run
    exact Back.frame (fr := [_]) kk
  | assign v =>
    fin_run
    refine rvalue_ok (k := k) (pre := [(L, _)] ++ pre) R' (hu' _) hg ?_
    fin_run
    exact Back.frame (fr := [_]) kk
  | print o =>
    fin_run
    refine operand_ok (k := k) (pre := [(L, _)] ++ pre) (R'.mono (by omega)) (hu' _) hg ?_
    fin_run
    exact Back.frame (fr := [_]) kk
end
section
/-! bare and regions, of any data -/
noncomputable def isRef : AV → Bool
  | .str x => x == "ref"
  | _ => false
noncomputable def isAdt : AV → Bool
  | .str x => x == "adt"
  | _ => false
noncomputable def isS : AV → Bool
  | .str _ => true
  | _ => false
/-- what the law's bare gives, to a depth -/
noncomputable def bareV : Nat → AV → AV
  | n + 1, .lst l => .lst (l.map (bareV n))
  | n + 1, .tup l => match l with
    | h :: x :: r => if isRef h then .tup (h :: .none :: r.map (bareV n)) else
        if isAdt h && isS x then (match r with
          | [.tup _, .tup ts] => .tup [h, x, .tup [.none, .none], .tup (ts.map (bareV n))]
          | _ => .tup ((h :: x :: r).map (bareV n)))
        else .tup ((h :: x :: r).map (bareV n))
    | l => .tup (l.map (bareV n))
  | _, d => d
/-- what the law's regions gives -/
noncomputable def regsV : Nat → AV → List AV
  | n + 1, .lst l => l.flatMap (regsV n)
  | n + 1, .tup l => match l with
    | h :: x :: r => if isRef h then x :: r.flatMap (regsV n) else
        if isAdt h && isS x then (match r with
          | [.tup rs, .tup ts] => rs ++ ts.flatMap (regsV n)
          | _ => (h :: x :: r).flatMap (regsV n))
        else (h :: x :: r).flatMap (regsV n)
    | l => l.flatMap (regsV n)
  | _, _ => []
/-- data that the two may be asked of -/
noncomputable def wfV : Nat → AV → Bool
  | _, .none => true
  | _, .bool _ => true
  | _, .int _ => true
  | _, .str x => PyData.strOk x
  | n + 1, .lst l => l.all (wfV n) && decide (l.length ≤ 1000)
  | n + 1, .tup l => decide (l.length ≤ 1000) && (match l with
    | h :: x :: r => l.all (wfV n) && (if isRef h then decide (2 ≤ r.length) else if isAdt h && isS x then (match r with
          | [.tup [_, _], .tup ts] => ts.all (wfV n) && decide (ts.length ≤ 1000)
          | _ => false) else true)
    | [h] => wfV n h && !isRef h && !isAdt h
    | [] => true)
  | _, _ => false
end
section
set_option linter.all false
inductive Tm where
  | ret | goto (g : Int) | callF (ts : List Ty) (os : List Op) (g : Int) | callM (t : Ty) (ts : List Ty) (os : List Op) (g : Int) | switch (o : Op) (g : Int) | assert (o : Op) (g : Int)
noncomputable def embC (t? : Option Ty) (ts : List Ty) : AV := match t? with
  | none => .tup [.str "fn", .str "g", .tup (ts.map emb)]
  | some t => .tup [.str "method", .str "T", .str "m", emb t, .tup (ts.map emb)]
noncomputable def embT : Tm → AV
  | .ret => .tup [.str "return"]
  | .goto g => .tup [.str "goto", .int g]
  | .callF ts os g => .tup [.str "call", embC none ts, .tup (os.map embO), .tup [.int 0, .tup []], .int g]
  | .callM t ts os g => .tup [.str "call", embC (some t) ts, .tup (os.map embO), .tup [.int 0, .tup []], .int g]
  | .switch o g => .tup [.str "switch", embO o, .tup [.tup [.int 3, .int g]], .int 0]
  | .assert o g => .tup [.str "assert", embO o, .bool true, .str "no", .int g]
noncomputable def numT (u : List (Str × AV)) (n : Int) : Tm → Tm × Int
  | .ret => (.ret, n)
  | .goto g => (.goto g, n)
  | .callF ts os g => (.callF (numL u (numOs u n os).2 ts).1 (numOs u n os).1 g, (numL u (numOs u n os).2 ts).2)
  | .callM t ts os g => (.callM (num u (numOs u n os).2 t).1 (numL u (num u (numOs u n os).2 t).2 ts).1 (numOs u n os).1 g, (numL u (num u (numOs u n os).2 t).2 ts).2)
  | .switch o g => (.switch (numO u n o).1 g, (numO u n o).2)
  | .assert o g => (.assert (numO u n o).1 g, (numO u n o).2)
noncomputable def goodTm (u : List (Str × AV)) (k : Nat) : Tm → Prop
  | .ret => True
  | .goto _ => True
  | .callF ts os _ => ((∀ t ∈ ts, dep t < k ∧ goodT u t) ∧ ts.length ≤ 1000) ∧ (∀ o ∈ os, goodO u k o) ∧ os.length ≤ 1000
  | .callM t ts os _ => (goodT u t ∧ dep t < k) ∧ ((∀ t ∈ ts, dep t < k ∧ goodT u t) ∧ ts.length ≤ 1000) ∧ (∀ o ∈ os, goodO u k o) ∧ os.length ≤ 1000
  | .switch o _ => goodO u k o
  | .assert o _ => goodO u k o
theorem calleeF_ok {c : Cx} {A : Around} {dx ua : Addr} {u : List (Str × AV)} {ts : List Ty} {n : Int} {k : Nat} {pre post : HL} {K : AV → HL → Prop} (R : Room (k + 9) A) (hu : (ua, MO.dct u) ∈ pre ++ post) (hg : ∀ t ∈ ts, dep t < k ∧ goodT u t) (hz : ts.length ≤ 1000)
    (kk : K (embC none (numL u n ts).1) (pre ++ (dx, nst ua (numL u n ts).2) :: post)) : AC c A (.adr 192) [.obj 155 dx, embC none ts] (pre ++ (dx, nst ua n) :: post) K := by
  refine ac_fn (c := c) (f := 192) [Str.ofString "numbers", Str.ofString "callee"] (k + 8) (fun L => [(L, .ns [("callee", embC none ts), ("numbers", .obj 155 dx)])]) R ?hb ?hk rfl rfl ?hfr (by kernel_rfl) (by kernel_rfl) (by kernel_rfl) ?hnd (by kernel_rfl) (by kernel_rfl) (by kernel_rfl) ?h
  case hb => exact len2 fun _ _ => by kernel_rfl
  case hnd => intro L; exact List.nodup_nil
  case hfr => intro L; kernel_rfl
  case hk => intro n L hn; simp only [List.mem_cons, List.not_mem_nil, or_false] at hn; rcases hn with rfl | rfl <;> exact .inl (by kernel_rfl)
  intro L A' R'
  have hu' : ∀ fr : HL, (ua, MO.dct u) ∈ (fr ++ pre) ++ post := fun fr => by
    rw [List.append_assoc]; exact List.mem_append_right _ hu
  fin_run
  refine e_meth ?_
  fin_run
  refine metK (l := nsl ua _) (by with_unfolding_all krn_off) rfl (m_types_of _) ?_
  fin_run
  refine AF.ac (types_of_ok (pre := [(L, _)] ++ pre) hg (by omega) (R'.mono (by omega)) (hu' _) ?_)
  fin_run
  exact Back.frame (fr := [_]) kk
theorem calleeM_ok {c : Cx} {A : Around} {dx ua : Addr} {u : List (Str × AV)} {t : Ty} {ts : List Ty} {n : Int} {k : Nat} {pre post : HL} {K : AV → HL → Prop} (R : Room (k + 9) A) (hu : (ua, MO.dct u) ∈ pre ++ post) (ht : goodT u t ∧ dep t < k) (hg : ∀ t ∈ ts, dep t < k ∧ goodT u t) (hz : ts.length ≤ 1000)
    (kk : K (embC (some (num u n t).1) (numL u (num u n t).2 ts).1) (pre ++ (dx, nst ua (numL u (num u n t).2 ts).2) :: post)) : AC c A (.adr 192) [.obj 155 dx, embC (some t) ts] (pre ++ (dx, nst ua n) :: post) K := by
  refine ac_fn (c := c) (f := 192) [Str.ofString "numbers", Str.ofString "callee"] (k + 8) (fun L => [(L, .ns [("callee", embC (some t) ts), ("numbers", .obj 155 dx)])]) R ?hb ?hk rfl rfl ?hfr (by kernel_rfl) (by kernel_rfl) (by kernel_rfl) ?hnd (by kernel_rfl) (by kernel_rfl) (by kernel_rfl) ?h
  case hb => exact len2 fun _ _ => by kernel_rfl
  case hnd => intro L; exact List.nodup_nil
  case hfr => intro L; kernel_rfl
  case hk => intro n L hn; simp only [List.mem_cons, List.not_mem_nil, or_false] at hn; rcases hn with rfl | rfl <;> exact .inl (by kernel_rfl)
  intro L A' R'
  have hu' : ∀ fr : HL, (ua, MO.dct u) ∈ (fr ++ pre) ++ post := fun fr => by
    rw [List.append_assoc]; exact List.mem_append_right _ hu
  fin_run
  refine e_meth ?_
  fin_run
  refine metK (l := nsl ua _) (by with_unfolding_all krn_off) rfl (m_type_of _) ?_
  fin_run
  refine AF.ac (type_of_ok (pre := [(L, _)] ++ pre) ht.2 (R'.mono (by omega)) (hu' _) ht.1 ?_)
  fin_run
  refine e_meth ?_
  fin_run
  refine metK (l := nsl ua _) (by with_unfolding_all krn_off) rfl (m_types_of _) ?_
  fin_run
  refine AF.ac (types_of_ok (pre := [(L, _)] ++ pre) hg (by omega) (R'.mono (by omega)) (hu' _) ?_)
  fin_run
  exact Back.frame (fr := [_]) kk
theorem terminator_ok {c : Cx} {A : Around} {dx ua : Addr} {u : List (Str × AV)} {v : Tm} {n : Int} {k : Nat} {pre post : HL} {K : AV → HL → Prop} (R : Room (k + 10) A) (hu : (ua, MO.dct u) ∈ pre ++ post) (hg : goodTm u k v)
    (kk : K (embT (numT u n v).1) (pre ++ (dx, nst ua (numT u n v).2) :: post)) : AC c A (.adr 199) [.obj 155 dx, embT v] (pre ++ (dx, nst ua n) :: post) K := by
  refine ac_fn (c := c) (f := 199) [Str.ofString "numbers", Str.ofString "terminator"] (k + 9) (fun L => [(L, .ns [("terminator", embT v), ("numbers", .obj 155 dx)])]) R ?hb ?hk rfl rfl ?hfr (by kernel_rfl) (by kernel_rfl) (by kernel_rfl) ?hnd (by kernel_rfl) (by kernel_rfl) (by kernel_rfl) ?h
  case hb => exact len2 fun _ _ => by kernel_rfl
  case hnd => intro L; exact List.nodup_nil
  case hfr => intro L; kernel_rfl
  case hk => intro n L hn; simp only [List.mem_cons, List.not_mem_nil, or_false] at hn; rcases hn with rfl | rfl <;> exact .inl (by kernel_rfl)
  intro L A' R'
  have hu' : ∀ fr : HL, (ua, MO.dct u) ∈ (fr ++ pre) ++ post := fun fr => by
    rw [List.append_assoc]; exact List.mem_append_right _ hu
  cases v with
  | ret =>
    fin_run
    exact Back.frame (fr := [_]) kk
  | goto g =>
    fin_run
    exact Back.frame (fr := [_]) kk
  | callF ts os g =>
    fin_run
    refine operands_ok (k := k) (pre := [(L, _)] ++ pre) (R'.mono (by omega)) (hu' _) hg.2.1 (Nat.le_trans hg.2.2 (by decide)) ?_
    fin_run
    refine calleeF_ok (k := k) (pre := [(L, _)] ++ pre) (R'.mono (by omega)) (hu' _) hg.1.1 hg.1.2 ?_
    fin_run
    exact Back.frame (fr := [_]) kk
  | callM t ts os g =>
    fin_run
    refine operands_ok (k := k) (pre := [(L, _)] ++ pre) (R'.mono (by omega)) (hu' _) hg.2.2.1 (Nat.le_trans hg.2.2.2 (by decide)) ?_
    fin_run
    refine calleeM_ok (k := k) (pre := [(L, _)] ++ pre) (R'.mono (by omega)) (hu' _) hg.1 hg.2.1.1 hg.2.1.2 ?_
    fin_run
    exact Back.frame (fr := [_]) kk
  | switch o g =>
    fin_run
    refine operand_ok (k := k) (pre := [(L, _)] ++ pre) (R'.mono (by omega)) (hu' _) hg ?_
    fin_run
    exact Back.frame (fr := [_]) kk
  | assert o g =>
    fin_run
    refine operand_ok (k := k) (pre := [(L, _)] ++ pre) (R'.mono (by omega)) (hu' _) hg ?_
    fin_run
    refine ⟨2, rfl, .inl ⟨_, rfl, by decide, by simp, by simp, ?_⟩⟩
    fin_run
    refine ac_tuple_tup ?_
    refine ob_addt (by simp) (by simp) (by simp) ?_
    exact Back.frame (fr := [_]) kk
end
section
set_option linter.all false
theorem strs_ref {h : AV} {x y : Str} : (PyData.eqv (py (.tup [.str x])) (py (.tup [.str y]))) = (x == y) := by simp [py, pyL, PyData.eqv, PyData.eqvAll]
/-- part[:1] == (s,) -/
theorem eqv_head {l : List AV} {s : Str} : PyData.eqv (py (.tup (l.take 1))) (py (.tup [.str s])) = (match l with | h :: _ => (match h with | .str x => x == s | _ => false) | [] => false) := by
  cases l with
  | nil => simp [py, pyL, PyData.eqv, PyData.eqvAll]
  | cons h r => cases h <;> simp [py, pyL, PyData.eqv, PyData.eqvAll]
theorem wf_ok : ∀ {n : Nat} {d : AV}, wfV n d = true → okV n d = true
  | _, .none, _ => by simp [okV]
  | _, .bool _, _ => by simp [okV]
  | _, .int _, _ => by simp [okV]
  | _, .str x, h => by simpa [okV, wfV] using h
  | n + 1, .lst l, h => by
    simp only [wfV, okV, Bool.and_eq_true, List.all_eq_true] at h ⊢
    exact fun x hx => wf_ok (h.1 x hx)
  | n + 1, .tup [], h => by simp [okV]
  | n + 1, .tup [x], h => by
    simp only [wfV, Bool.and_eq_true] at h
    simp only [okV, List.all_cons, List.all_nil, Bool.and_true]
    exact wf_ok h.2.1.1
  | n + 1, .tup (x :: y :: r), h => by
    simp only [wfV, Bool.and_eq_true] at h
    simp only [okV, List.all_eq_true]
    exact fun z hz => wf_ok (List.all_eq_true.mp h.2.1 z hz)
  | 0, .tup _, h => by simp [wfV] at h
  | 0, .lst _, h => by simp [wfV] at h
  | _, .any, h => by simp [wfV] at h
  | _, .typ _, h => by simp [wfV] at h
  | _, .blt _, h => by simp [wfV] at h
  | _, .adr _, h => by simp [wfV] at h
  | _, .scr _, h => by simp [wfV] at h
  | _, .obj _ _, h => by simp [wfV] at h
  | _, .mth _ _, h => by simp [wfV] at h
  | _, .rng _ _, h => by simp [wfV] at h
/-- the facts of a tuple with a head -/
theorem isRef_eq {h : AV} : (match h with | .str x => x == ("ref" : Str) | _ => false) = isRef h := by cases h <;> rfl
theorem isAdt_eq {h : AV} : (match h with | .str x => x == ("adt" : Str) | _ => false) = isAdt h := by cases h <;> rfl
noncomputable def atomV : AV → Bool
  | .none | .bool _ | .int _ | .str _ => true
  | _ => false
theorem bare_atom {n : Nat} {d : AV} (h : atomV d = true) : bareV n d = d := by cases d <;> first | (cases n <;> rfl) | (simp [atomV] at h)
theorem regs_atom {n : Nat} {d : AV} (h : atomV d = true) : regsV n d = [] := by cases d <;> first | (cases n <;> rfl) | (simp [atomV] at h)
theorem wf_cases {n : Nat} {d : AV} (h : wfV n d = true) : atomV d = true ∨ (∃ m l, n = m + 1 ∧ d = .lst l) ∨ ∃ m l, n = m + 1 ∧ d = .tup l := by
  cases d with
  | none => exact .inl rfl
  | bool => exact .inl rfl
  | int => exact .inl rfl
  | str => exact .inl rfl
  | tup l => cases n with | zero => simp [wfV] at h | succ m => exact .inr (.inr ⟨m, l, rfl, rfl⟩)
  | lst l => cases n with | zero => simp [wfV] at h | succ m => exact .inr (.inl ⟨m, l, rfl, rfl⟩)
  | _ => cases n <;> simp [wfV] at h
theorem isi_str {n : Nat} {d : AV} (h : wfV n d = true) : isiT .str d = some (isS d) := by
  rcases wf_cases h with h | ⟨m, l, _, rfl⟩ | ⟨m, l, _, rfl⟩
  · cases d <;> first | rfl | cases h
  · rfl
  · rfl
theorem isRef_str {h : AV} (e : isRef h = true) : h = .str "ref" := by
  cases h <;> simp [isRef] at e
  rw [e]
theorem isAdt_str {h : AV} (e : isAdt h = true) : h = .str "adt" := by
  cases h <;> simp [isAdt] at e
  rw [e]
/-- [f(one) for one in part], the ledger as it was -/
theorem e_mapc {c : Cx} {A : Around} {env : Env} {elt iter : Expr} {x : Str} {px : Pos} {scope : Scope} {pos : Pos} {cl : List (Str × Addr)} {H : HL} {K : AV → HL → Prop} (f : AV → AV) (hh : A.handled = none) (hclos : closureFor scope env = pure cl) (hcell : ∀ y ∈ scope.names, y.2 ≠ .cell) (hkind : scope.kind = .function)
    (hnames : ∀ y ∈ scope.names, y.2 = .local → scope.names.lookup y.1 = some .local) (hx : (relabel scope env).names.lookup x = some .local)
    (h : AE c A env iter H fun d H₁ => ∃ l, itemsOf d = some l ∧ smallR d = true ∧ l.length ≤ 10000 ∧
      (∀ C it D rest acc item, item ∈ l → AE c A (compEnvC scope cl C env) elt ((C, .ns [(x, item)]) :: (it, .itr rest) :: (D, .lst acc) :: H₁) (fun d' H'' => H'' = (C, .ns [(x, item)]) :: (it, .itr rest) :: (D, .lst acc) :: H₁ ∧ d' = f item)) ∧
      K (.lst (l.map f)) H₁)
    (hs : ∀ x, foldedSetIterable iter env x = pure x := by intro _; with_unfolding_all rfl) : AE c A env (.ListComp elt [⟨.Name x px, iter, [], 0⟩] scope pos) H K := by
  refine e_comp hh hclos hcell hkind hnames hx (TV.mono h fun d H₁ k => ?_) hs
  obtain ⟨l, h1, h2, h3, h4, h5⟩ := k
  refine ⟨l, h1, h2, h3, fun done acc H' => acc = done.map f ∧ H' = H₁, ⟨rfl, rfl⟩, ?_, ?_⟩
  · rintro C it D done item rest acc H' hl ⟨rfl, rfl⟩
    refine TV.mono (h4 C it D rest _ item (by rw [hl]; simp)) fun d' H'' q => ?_
    obtain ⟨rfl, rfl⟩ := q
    exact ⟨_, rfl, by simp, rfl⟩
  · rintro acc H' ⟨rfl, rfl⟩ _
    exact h5
noncomputable def headIs (p : AV → Bool) : List AV → Bool
  | h :: _ => p h
  | [] => false
theorem eqv_ref {l : List AV} : PyData.eqv (py (.tup (l.take 1))) (py (.tup [.str "ref"])) = headIs isRef l := by
  rw [eqv_head]
  cases l with
  | nil => rfl
  | cons h r => exact isRef_eq
theorem eqv_adt {l : List AV} : PyData.eqv (py (.tup (l.take 1))) (py (.tup [.str "adt"])) = headIs isAdt l := by
  rw [eqv_head]
  cases l with
  | nil => rfl
  | cons h r => exact isAdt_eq
theorem wf_all {n : Nat} {l : List AV} (h : wfV (n + 1) (.tup l) = true) : (∀ x ∈ l, wfV n x = true) ∧ l.length ≤ 1000 := by
  simp only [wfV, Bool.and_eq_true, decide_eq_true_eq] at h
  refine ⟨?_, h.1⟩
  match l, h.2 with
  | [], _ => simp
  | [y], h2 =>
    intro x hx
    simp only [Bool.and_eq_true] at h2
    simp only [List.mem_singleton] at hx
    rw [hx]; exact h2.1.1
  | y :: z :: r, h2 => exact List.all_eq_true.mp (Bool.and_eq_true_iff.mp h2).1
theorem wf_refs {n : Nat} {l : List AV} (h : wfV (n + 1) (.tup l) = true) (hr : headIs isRef l = true) : ∃ x r, l = .str "ref" :: x :: r ∧ 2 ≤ r.length := by
  simp only [wfV] at h
  rw [Bool.and_eq_true] at h
  match l, h.2, hr with
  | [y], h2, hr =>
    simp only [Bool.and_eq_true, Bool.not_eq_true'] at h2
    exact absurd hr (by show ¬ isRef y = true; rw [h2.1.2]; decide)
  | y :: z :: r, h2, hr =>
    have hr : isRef y = true := hr
    dsimp only at h2
    rw [hr] at h2
    simp only [if_true, Bool.and_eq_true, decide_eq_true_eq] at h2
    exact ⟨z, r, by rw [isRef_str hr], h2.2⟩
theorem wf_adts {n : Nat} {l : List AV} (h : wfV (n + 1) (.tup l) = true) (hr : headIs isRef l = false) (ha : headIs isAdt l = true) : ∃ x r, l = .str "adt" :: x :: r ∧ (isS x = true → ∃ a b ts, r = [.tup [a, b], .tup ts] ∧ (∀ t ∈ ts, wfV n t = true) ∧ ts.length ≤ 1000) := by
  simp only [wfV] at h
  rw [Bool.and_eq_true] at h
  match l, h.2, hr, ha with
  | [y], h2, hr, ha =>
    simp only [Bool.and_eq_true, Bool.not_eq_true'] at h2
    exact absurd ha (by show ¬ isAdt y = true; rw [h2.2]; decide)
  | y :: z :: r, h2, hr, ha =>
    have hr : isRef y = false := hr
    have ha : isAdt y = true := ha
    refine ⟨z, r, by rw [isAdt_str ha], fun hs => ?_⟩
    dsimp only at h2
    rw [hr, ha, hs] at h2
    simp only [Bool.false_eq_true, if_false, Bool.and_self, if_true, Bool.and_eq_true] at h2
    split at h2
    · rename_i a b ts
      have := Bool.and_eq_true_iff.mp h2.2
      exact ⟨a, b, ts, rfl, List.all_eq_true.mp this.1, of_decide_eq_true this.2⟩
    · exact absurd h2.2 (by decide)
theorem bare_gen {n : Nat} {l : List AV} (hr : headIs isRef l = false) (ha : headIs isAdt l = true → ∀ h x r, l = h :: x :: r → isS x = false) : bareV (n + 1) (.tup l) = .tup (l.map (bareV n)) := by
  match l, hr, ha with
  | [], _, _ => rfl
  | [y], _, _ => rfl
  | y :: z :: r, hr, ha =>
    have hr : isRef y = false := hr
    show (if isRef y = true then _ else if (isAdt y && isS z) = true then _ else _) = _
    rw [hr, if_neg (by decide)]
    cases hy : isAdt y with
    | false => rw [Bool.false_and, if_neg (by decide)]
    | true => rw [ha hy y z r rfl, Bool.and_false, if_neg (by decide)]
theorem bare_ref {n : Nat} {h x : AV} {r : List AV} (hr : isRef h = true) : bareV (n + 1) (.tup (h :: x :: r)) = .tup (h :: .none :: r.map (bareV n)) := by
  show (if isRef h = true then _ else _) = _
  rw [if_pos hr]
theorem bare_adt {n : Nat} {h x a b : AV} {ts : List AV} (hr : isRef h = false) (ha : isAdt h = true) (hs : isS x = true) : bareV (n + 1) (.tup [h, x, .tup [a, b], .tup ts]) = .tup [h, x, .tup [.none, .none], .tup (ts.map (bareV n))] := by
  show (if isRef h = true then _ else if (isAdt h && isS x) = true then _ else _) = _
  rw [hr, if_neg (by decide), ha, hs, if_pos (by decide)]
theorem regs_ref {n : Nat} {h x : AV} {r : List AV} (hr : isRef h = true) : regsV (n + 1) (.tup (h :: x :: r)) = x :: r.flatMap (regsV n) := by
  show (if isRef h = true then _ else _) = _
  rw [if_pos hr]
theorem regs_adt {n : Nat} {h x a b : AV} {ts : List AV} (hr : isRef h = false) (ha : isAdt h = true) (hs : isS x = true) : regsV (n + 1) (.tup [h, x, .tup [a, b], .tup ts]) = [a, b] ++ ts.flatMap (regsV n) := by
  show (if isRef h = true then _ else if (isAdt h && isS x) = true then _ else _) = _
  rw [hr, if_neg (by decide), ha, hs, if_pos (by decide)]
theorem regs_gen {n : Nat} {l : List AV} (hr : headIs isRef l = false) (ha : headIs isAdt l = true → ∀ h x r, l = h :: x :: r → isS x = false) : regsV (n + 1) (.tup l) = l.flatMap (regsV n) := by
  match l, hr, ha with
  | [], _, _ => rfl
  | [y], _, _ => rfl
  | y :: z :: r, hr, ha =>
    have hr : isRef y = false := hr
    show (if isRef y = true then _ else if (isAdt y && isS z) = true then _ else _) = _
    rw [hr, if_neg (by decide)]
    cases hy : isAdt y with
    | false => rw [Bool.false_and, if_neg (by decide)]
    | true => rw [ha hy y z r rfl, Bool.and_false, if_neg (by decide)]
theorem bare_at {c : Cx} {A : Around} {d : AV} {H : HL} {K : AV → HL → Prop} (ha : atomV d = true) (R : Room 1 A) (k : K d H) : AC c A (.adr 292) [d] H K := by
  refine ac_fn (c := c) (f := 292) [Str.ofString "part"] (0) (fun L => [(L, .ns [("part", d)])]) R ?hb ?hk rfl rfl ?hfr (by kernel_rfl) (by kernel_rfl) (by kernel_rfl) ?hnd (by kernel_rfl) (by kernel_rfl) (by kernel_rfl) ?h
  case hb => exact len1 fun _ => by kernel_rfl
  case hnd => intro L; exact List.nodup_nil
  case hfr => intro L; kernel_rfl
  case hk => intro n L hn; simp only [List.mem_cons, List.not_mem_nil, or_false] at hn; rcases hn with rfl; exact .inl (by kernel_rfl)
  intro L A' R'
  fin_run
  refine ac_isi (T := .list) (b := false) (by cases d <;> first | rfl | cases ha) ?_
  fin_run
  refine ac_isi (T := .tuple) (b := false) (by cases d <;> first | rfl | cases ha) ?_
  fin_run
  exact Back.frame (fr := [_]) k
theorem bare_ok {c : Cx} : ∀ (n : Nat) (A : Around) (d : AV) (H : HL) (K : AV → HL → Prop), wfV n d = true → n ≤ 50 → Room (n + 2) A → K (bareV n d) H → AC c A (.adr 292) [d] H K := by
  intro n
  induction n with
  | zero =>
    intro A d H K hw hn R k
    rcases wf_cases hw with ha | ⟨m, l, e, _⟩ | ⟨m, l, e, _⟩
    · rw [bare_atom ha] at k
      exact bare_at ha (R.mono (by omega)) k
    · cases e
    · cases e
  | succ n ih =>
    intro A d H K hw hn R k
    rcases wf_cases hw with ha | ⟨m, l, e, rfl⟩ | ⟨m, l, e, rfl⟩
    · rw [bare_atom ha] at k
      exact bare_at ha (R.mono (by omega)) k
    · cases e
      simp only [wfV, Bool.and_eq_true, List.all_eq_true, decide_eq_true_eq] at hw
      refine ac_fn (c := c) (f := 292) [Str.ofString "part"] (n + 2) (fun L => [(L, .ns [("part", .lst l)])]) R ?hb ?hk rfl rfl ?hfr (by kernel_rfl) (by kernel_rfl) (by kernel_rfl) ?hnd (by kernel_rfl) (by kernel_rfl) (by kernel_rfl) ?h
      case hb => exact len1 fun _ => by kernel_rfl
      case hnd => intro L; exact List.nodup_nil
      case hfr => intro L; kernel_rfl
      case hk => intro n L hn; simp only [List.mem_cons, List.not_mem_nil, or_false] at hn; rcases hn with rfl; exact .inl (by kernel_rfl)
      intro L A' R'
      fin_run
      refine ac_isi (T := .list) (d := .lst l) (b := true) rfl ?_
      fin_run
      refine e_mapc (bareV n) (R'.handled) (by with_unfolding_all rfl) (by decide +kernel) (by kernel_rfl) (by decide +kernel) (by kernel_rfl) ?_
      fin_run
      refine ⟨l, rfl, rfl, by omega, fun C it D rest acc item hi => ?_, Back.frame (fr := [_]) k⟩
      fin_run
      exact ih _ item _ _ (hw.1 item hi) (by omega) (R'.mono (by omega)) ⟨rfl, rfl⟩
    · cases e
      refine ac_fn (c := c) (f := 292) [Str.ofString "part"] (n + 2) (fun L => [(L, .ns [("part", .tup l)])]) R ?hb ?hk rfl rfl ?hfr (by kernel_rfl) (by kernel_rfl) (by kernel_rfl) ?hnd (by kernel_rfl) (by kernel_rfl) (by kernel_rfl) ?h
      case hb => exact len1 fun _ => by kernel_rfl
      case hnd => intro L; exact List.nodup_nil
      case hfr => intro L; kernel_rfl
      case hk => intro n L hn; simp only [List.mem_cons, List.not_mem_nil, or_false] at hn; rcases hn with rfl; exact .inl (by kernel_rfl)
      intro L A' R'
      have ok := wf_ok hw
      have okt : okV 60 (.tup (l.take 1)) = true := okV_le (n := n + 1) (by
        simp only [okV, List.all_eq_true] at ok ⊢
        exact fun x hx => ok x (List.take_subset _ _ hx)) (by omega)
      have hz : l.length ≤ 10000 := by
        simp only [wfV, Bool.and_eq_true, decide_eq_true_eq] at hw; omega
      fin_run
      refine ac_isi (T := .list) (d := .tup l) (b := false) rfl ?_
      fin_run
      refine ac_isi (T := .tuple) (d := .tup l) (b := true) rfl ?_
      fin_run
      refine ⟨1, rfl, .inl ⟨l, rfl, hz, ?_⟩⟩
      fin_run
      refine oc_eqD (n := 60) (m := 1) okt (by simp only [okV, List.all_cons, List.all_nil, Bool.and_true]; decide +kernel) (by decide) (by decide) (R'.mono (by omega)) ?_
      rw [eqv_ref]
      cases hR : headIs isRef l with
      | true =>
        obtain ⟨x, r, rfl, h2⟩ := wf_refs hw hR
        have hr : ∀ y ∈ r, wfV n y = true := fun y hy => (wf_all hw).1 y (.tail _ (.tail _ hy))
        have hz' : r.length ≤ 10000 := by simp at hz; omega
        rw [bare_ref (by decide +kernel)] at k
        fin_run
        refine e_mapc (bareV n) (R'.handled) (by with_unfolding_all rfl) (by decide +kernel) (by kernel_rfl) (by decide +kernel) (by kernel_rfl) ?_
        fin_run
        refine ⟨2, rfl, .inl ⟨_, rfl, by decide, by simp, hz, ?_⟩⟩
        refine ⟨r, rfl, rfl, hz', fun C it D rest acc item hi => ?_, ?_⟩
        · fin_run
          exact ih _ item _ _ (hr item hi) (by omega) (R'.mono (by omega)) ⟨rfl, rfl⟩
        · fin_run
          refine ac_tuple_lst (by simpa using hz') ?_
          refine ob_addt (by simp) (fun e => ?_) (by simp at hz ⊢; omega) ?_
          · have := congrArg List.length e
            simp at this
            rw [this] at h2
            simp at h2
          · exact Back.frame (fr := [_]) k
      | false =>
        fin_run
        refine ⟨1, rfl, .inl ⟨l, rfl, hz, ?_⟩⟩
        fin_run
        refine oc_eqD (n := 60) (m := 1) okt (by simp only [okV, List.all_cons, List.all_nil, Bool.and_true]; decide +kernel) (by decide) (by decide) (R'.mono (by omega)) ?_
        rw [eqv_adt]
        cases hA : headIs isAdt l with
        | true =>
          obtain ⟨x, r, el, hx⟩ := wf_adts hw hR hA
          have hwx : wfV n x = true := (wf_all hw).1 x (by rw [el]; simp)
          fin_run
          refine os_tup (d := x) (by decide) (by rw [el]; rfl) hz ?_
          fin_run
          refine ac_isi (T := .str) (isi_str hwx) ?_
          cases hS : isS x with
          | true =>
            obtain ⟨a, b, ts, rfl, hts, htz⟩ := hx hS
            subst el
            rw [bare_adt (by decide +kernel) (by decide +kernel) hS] at k
            refine ⟨_, rfl, fun _ => ?_, fun hb => Bool.noConfusion hb⟩
            fin_run
            refine ac_len_tup (by simp) ?_
            fin_run
            refine ob_mul2 ?_
            fin_run
            refine e_mapc (bareV n) (R'.handled) (by with_unfolding_all rfl) (by decide +kernel) (by kernel_rfl) (by decide +kernel) (by kernel_rfl) ?_
            fin_run
            refine ⟨ts, rfl, rfl, by omega, fun C it D rest acc item hi => ?_, ?_⟩
            · fin_run
              exact ih _ item _ _ (hts item hi) (by omega) (R'.mono (by omega)) ⟨rfl, rfl⟩
            · fin_run
              refine ac_tuple_lst (by simp; omega) ?_
              fin_run
              exact Back.frame (fr := [_]) k
          | false =>
            rw [bare_gen hR (fun _ h' x' r' e' => by rw [el] at e'; cases e'; exact hS)] at k
            fin_run
            refine e_mapc (bareV n) (R'.handled) (by with_unfolding_all rfl) (by decide +kernel) (by kernel_rfl) (by decide +kernel) (by kernel_rfl) ?_
            fin_run
            refine ⟨l, rfl, rfl, hz, fun C it D rest acc item hi => ?_, ?_⟩
            · fin_run
              exact ih _ item _ _ ((wf_all hw).1 item hi) (by omega) (R'.mono (by omega)) ⟨rfl, rfl⟩
            · fin_run
              refine ac_tuple_lst (by simpa using hz) ?_
              exact Back.frame (fr := [_]) k
        | false =>
          rw [bare_gen hR (fun h => by rw [hA] at h; cases h)] at k
          fin_run
          refine e_mapc (bareV n) (R'.handled) (by with_unfolding_all rfl) (by decide +kernel) (by kernel_rfl) (by decide +kernel) (by kernel_rfl) ?_
          fin_run
          refine ⟨l, rfl, rfl, hz, fun C it D rest acc item hi => ?_, ?_⟩
          · fin_run
            exact ih _ item _ _ ((wf_all hw).1 item hi) (by omega) (R'.mono (by omega)) ⟨rfl, rfl⟩
          · fin_run
            refine ac_tuple_lst (by simpa using hz) ?_
            exact Back.frame (fr := [_]) k
end
section
set_option linter.all false
/-- [f(y) for x in part for y in g(x)], the ledger as it was -/
theorem e_flat {c : Cx} {A : Around} {env : Env} {elt i0 i1 : Expr} {x0 x1 : Str} {p0 p1 : Pos} {scope : Scope} {pos : Pos} {cl : List (Str × Addr)} {H : HL} {K : AV → HL → Prop} (g : AV → List AV) (f : AV → AV) (hh : A.handled = none) (hclos : closureFor scope env = pure cl) (hcell : ∀ y ∈ scope.names, y.2 ≠ .cell) (hkind : scope.kind = .function)
    (hnames : ∀ y ∈ scope.names, y.2 = .local → scope.names.lookup y.1 = some .local) (hx0 : (relabel scope env).names.lookup x0 = some .local) (hx1 : (relabel scope env).names.lookup x1 = some .local)
    (h : AE c A env i0 H fun d H₁ => ∃ l, itemsOf d = some l ∧ smallR d = true ∧ (l.flatMap g).length ≤ 10000 ∧
      (∀ C it D old rest acc item, item ∈ l → AE c A (compEnvC scope cl C env) i1 ((C, .ns ((x0, item) :: old)) :: (it, .itr rest) :: (D, .lst acc) :: H₁) (fun d1 H'' => (∃ old', H'' = (C, .ns old') :: (it, .itr rest) :: (D, .lst acc) :: H₁) ∧ d1 = .lst (g item))) ∧
      (∀ C it1 it D old1 rest1 rest acc1 item item1, item ∈ l → item1 ∈ g item → AE c A (compEnvC scope cl C env) elt ((C, .ns ((x1, item1) :: old1)) :: (it1, .itr rest1) :: (it, .itr rest) :: (D, .lst acc1) :: H₁)
        (fun d' H₅ => (∃ old2, H₅ = (C, .ns old2) :: (it1, .itr rest1) :: (it, .itr rest) :: (D, .lst acc1) :: H₁) ∧ d' = f item1)) ∧
      K (.lst ((l.flatMap g).map f)) H₁)
    (hs : ∀ x, foldedSetIterable i0 env x = pure x := by intro _; with_unfolding_all rfl) (hs1 : ∀ env x, foldedSetIterable i1 env x = pure x := by intro _ _; with_unfolding_all rfl) :
    AE c A env (.ListComp elt [⟨.Name x0 p0, i0, [], 0⟩, ⟨.Name x1 p1, i1, [], 0⟩] scope pos) H K := by
  refine e_comp2 hh hclos hcell hkind hnames hx0 hx1 (TV.mono h fun d H₁ k => ?_) hs hs1
  obtain ⟨l, h1, h2, h3, h4, h5, h6⟩ := k
  refine ⟨l, h1, h2, fun done acc H' => acc = (done.flatMap g).map f ∧ H' = H₁, ⟨rfl, rfl⟩, ?_, fun acc H' q => ?_⟩
  · rintro C it D old done item rest acc H' hl ⟨rfl, rfl⟩
    refine TV.mono (h4 C it D old rest _ item (by rw [hl]; simp)) fun d' H'' q => ?_
    obtain ⟨⟨old', rfl⟩, rfl⟩ := q
    refine ⟨_, old', rfl, g item, rfl, rfl, ?_, fun done1 acc1 H₄ => acc1 = (done.flatMap g).map f ++ done1.map f ∧ H₄ = H', ⟨by simp, rfl⟩, ?_, ?_⟩
    · rw [hl] at h3
      simp only [List.flatMap_append, List.flatMap_cons, List.length_append] at h3
      rw [List.length_map]; omega
    · rintro it1 old1 done1 item1 rest1 acc1 H₄ hl1 ⟨rfl, rfl⟩
      refine TV.mono (h5 C it1 it D old1 rest1 rest _ item item1 (by rw [hl]; simp) (by rw [hl1]; simp)) fun d' H'' q => ?_
      obtain ⟨⟨old2, rfl⟩, rfl⟩ := q
      exact ⟨_, old2, rfl, by simp, rfl⟩
    · rintro acc1 H₄ ⟨rfl, rfl⟩
      exact ⟨by simp, rfl⟩
  · obtain ⟨rfl, rfl⟩ := q
    exact h6
theorem flat_sub {g : AV → List AV} {l : List AV} {x : AV} (h : x ∈ l) : (g x).length ≤ (l.flatMap g).length := by
  obtain ⟨a, b, rfl⟩ := List.append_of_mem h
  simp only [List.flatMap_append, List.flatMap_cons, List.length_append]; omega
theorem regs_at {c : Cx} {A : Around} {d : AV} {H : HL} {K : AV → HL → Prop} (ha : atomV d = true) (R : Room 1 A) (k : K (.lst []) H) : AC c A (.adr 297) [d] H K := by
  refine ac_fn (c := c) (f := 297) [Str.ofString "part"] 0 (fun L => [(L, .ns [("part", d)])]) R ?hb ?hk rfl rfl ?hfr (by kernel_rfl) (by kernel_rfl) (by kernel_rfl) ?hnd (by kernel_rfl) (by kernel_rfl) (by kernel_rfl) ?h
  case hb => exact len1 fun _ => by kernel_rfl
  case hnd => intro L; exact List.nodup_nil
  case hfr => intro L; kernel_rfl
  case hk => intro n L hn; simp only [List.mem_cons, List.not_mem_nil, or_false] at hn; rcases hn with rfl; exact .inl (by kernel_rfl)
  intro L A' R'
  fin_run
  refine ac_isiTL (b := false) (by cases d <;> first | rfl | cases ha) ?_
  fin_run
  refine e_list ?_
  fin_run
  exact Back.frame (fr := [_]) k
theorem regs_ok {c : Cx} : ∀ (n : Nat) (A : Around) (d : AV) (H : HL) (K : AV → HL → Prop), wfV n d = true → n ≤ 50 → (regsV n d).length ≤ 10000 → Room (n + 2) A → K (.lst (regsV n d)) H → AC c A (.adr 297) [d] H K := by
  intro n
  induction n with
  | zero =>
    intro A d H K hw hn hz R k
    rcases wf_cases hw with ha | ⟨m, l, e, _⟩ | ⟨m, l, e, _⟩
    · rw [regs_atom ha] at k
      exact regs_at ha (R.mono (by omega)) k
    · cases e
    · cases e
  | succ n ih =>
    intro A d H K hw hn hz R k
    rcases wf_cases hw with ha | ⟨m, l, e, rfl⟩ | ⟨m, l, e, rfl⟩
    · rw [regs_atom ha] at k
      exact regs_at ha (R.mono (by omega)) k
    · cases e
      simp only [wfV, Bool.and_eq_true, List.all_eq_true, decide_eq_true_eq] at hw
      refine ac_fn (c := c) (f := 297) [Str.ofString "part"] (n + 2) (fun L => [(L, .ns [("part", .lst l)])]) R ?hb ?hk rfl rfl ?hfr (by kernel_rfl) (by kernel_rfl) (by kernel_rfl) ?hnd (by kernel_rfl) (by kernel_rfl) (by kernel_rfl) ?h
      case hb => exact len1 fun _ => by kernel_rfl
      case hnd => intro L; exact List.nodup_nil
      case hfr => intro L; kernel_rfl
      case hk => intro n L hn; simp only [List.mem_cons, List.not_mem_nil, or_false] at hn; rcases hn with rfl; exact .inl (by kernel_rfl)
      intro L A' R'
      have hz : (l.flatMap (regsV n)).length ≤ 10000 := hz
      have k : K (.lst (l.flatMap (regsV n))) H := k
      fin_run
      refine ac_isiTL (d := .lst l) (b := true) rfl ?_
      fin_run
      refine ac_isi (T := .tuple) (d := .lst l) (b := false) rfl ?_
      fin_run
      refine ac_isi (T := .tuple) (d := .lst l) (b := false) rfl ?_
      fin_run
      refine e_flat (regsV n) id (R'.handled) (by with_unfolding_all rfl) (by decide +kernel) (by kernel_rfl) (by decide +kernel) (by kernel_rfl) (by kernel_rfl) ?_
      fin_run
      refine ⟨l, rfl, rfl, hz, fun C it D old rest acc item hi => ?_, fun C it1 it D old1 rest1 rest acc1 item item1 _ _ => ?_, by rw [List.map_id]; exact Back.frame (fr := [_]) k⟩
      · fin_run
        exact ih _ item _ _ (hw.1 item hi) (by omega) (Nat.le_trans (flat_sub hi) hz) (R'.mono (by omega)) ⟨⟨_, rfl⟩, rfl⟩
      · fin_run
        exact ⟨⟨_, rfl⟩, rfl⟩
    · cases e
      refine ac_fn (c := c) (f := 297) [Str.ofString "part"] (n + 2) (fun L => [(L, .ns [("part", .tup l)])]) R ?jb ?jk rfl rfl ?jfr (by kernel_rfl) (by kernel_rfl) (by kernel_rfl) ?jnd (by kernel_rfl) (by kernel_rfl) (by kernel_rfl) ?j
      case jb => exact len1 fun _ => by kernel_rfl
      case jnd => intro L; exact List.nodup_nil
      case jfr => intro L; kernel_rfl
      case jk => intro n L hn; simp only [List.mem_cons, List.not_mem_nil, or_false] at hn; rcases hn with rfl; exact .inl (by kernel_rfl)
      intro L A' R'
      have ok := wf_ok hw
      have okt : okV 60 (.tup (l.take 1)) = true := okV_le (n := n + 1) (by
        simp only [okV, List.all_eq_true] at ok ⊢
        exact fun x hx => ok x (List.take_subset _ _ hx)) (by omega)
      have hzl : l.length ≤ 10000 := by
        have := (wf_all hw).2; omega
      fin_run
      refine ac_isiTL (d := .tup l) (b := true) rfl ?_
      fin_run
      refine ac_isi (T := .tuple) (d := .tup l) (b := true) rfl ?_
      fin_run
      refine ⟨1, rfl, .inl ⟨l, rfl, hzl, ?_⟩⟩
      fin_run
      refine oc_eqD (n := 60) (m := 1) okt (by simp only [okV, List.all_cons, List.all_nil, Bool.and_true]; decide +kernel) (by decide) (by decide) (R'.mono (by omega)) ?_
      rw [eqv_ref]
      cases hR : headIs isRef l with
      | true =>
        obtain ⟨x, r, rfl, h2⟩ := wf_refs hw hR
        have hr : ∀ y ∈ r, wfV n y = true := fun y hy => (wf_all hw).1 y (.tail _ (.tail _ hy))
        rw [regs_ref (by decide +kernel)] at k hz
        have hz' : (r.flatMap (regsV n)).length ≤ 10000 := by rw [List.length_cons] at hz; omega
        fin_run
        refine e_list ?_
        fin_run
        refine os_tup (d := x) (by decide) rfl hzl ?_
        fin_run
        refine e_flat (regsV n) id (R'.handled) (by with_unfolding_all rfl) (by decide +kernel) (by kernel_rfl) (by decide +kernel) (by kernel_rfl) (by kernel_rfl) ?_
        fin_run
        refine ⟨2, rfl, .inl ⟨_, rfl, by decide, by simp, hzl, ?_⟩⟩
        refine ⟨r, rfl, rfl, hz', fun C it D old rest acc item hi => ?_, fun C it1 it D old1 rest1 rest acc1 item item1 _ _ => ?_, ?_⟩
        · fin_run
          exact ih _ item _ _ (hr item hi) (by omega) (Nat.le_trans (flat_sub hi) hz') (R'.mono (by omega)) ⟨⟨_, rfl⟩, rfl⟩
        · fin_run
          exact ⟨⟨_, rfl⟩, rfl⟩
        · rw [List.map_id]
          refine ob_addl (by simp at hz ⊢; omega) ?_
          exact Back.frame (fr := [_]) k
      | false =>
        fin_run
        refine ac_isi (T := .tuple) (d := .tup l) (b := true) rfl ?_
        fin_run
        refine ⟨1, rfl, .inl ⟨l, rfl, hzl, ?_⟩⟩
        fin_run
        refine oc_eqD (n := 60) (m := 1) okt (by simp only [okV, List.all_cons, List.all_nil, Bool.and_true]; decide +kernel) (by decide) (by decide) (R'.mono (by omega)) ?_
        rw [eqv_adt]
        cases hA : headIs isAdt l with
        | true =>
          obtain ⟨x, r, el, hx⟩ := wf_adts hw hR hA
          have hwx : wfV n x = true := (wf_all hw).1 x (by rw [el]; simp)
          fin_run
          refine os_tup (d := x) (by decide) (by rw [el]; rfl) hzl ?_
          fin_run
          refine ac_isi (T := .str) (isi_str hwx) ?_
          cases hS : isS x with
          | true =>
            obtain ⟨a, b, ts, rfl, hts, htz⟩ := hx hS
            subst el
            rw [regs_adt (by decide +kernel) (by decide +kernel) hS] at k hz
            have hz2 : (ts.flatMap (regsV n)).length ≤ 10000 := by rw [List.length_append] at hz; omega
            refine ⟨_, rfl, fun _ => ?_, fun hb => Bool.noConfusion hb⟩
            fin_run
            refine ac_list_of (l := [a, b]) (.inl rfl) (by simp) ?_
            fin_run
            refine e_flat (regsV n) id (R'.handled) (by with_unfolding_all rfl) (by decide +kernel) (by kernel_rfl) (by decide +kernel) (by kernel_rfl) (by kernel_rfl) ?_
            fin_run
            refine ⟨ts, rfl, rfl, hz2, fun C it D old rest acc item hi => ?_, fun C it1 it D old1 rest1 rest acc1 item item1 _ _ => ?_, ?_⟩
            · fin_run
              exact ih _ item _ _ (hts item hi) (by omega) (Nat.le_trans (flat_sub hi) hz2) (R'.mono (by omega)) ⟨⟨_, rfl⟩, rfl⟩
            · fin_run
              exact ⟨⟨_, rfl⟩, rfl⟩
            · rw [List.map_id]
              refine ob_addl (by rw [List.length_append] at hz; exact hz) ?_
              exact Back.frame (fr := [_]) k
          | false =>
            rw [regs_gen hR (fun _ h' x' r' e' => by rw [el] at e'; cases e'; exact hS)] at k hz
            fin_run
            refine e_flat (regsV n) id (R'.handled) (by with_unfolding_all rfl) (by decide +kernel) (by kernel_rfl) (by decide +kernel) (by kernel_rfl) (by kernel_rfl) ?_
            fin_run
            refine ⟨l, rfl, rfl, hz, fun C it D old rest acc item hi => ?_, fun C it1 it D old1 rest1 rest acc1 item item1 _ _ => ?_, by rw [List.map_id]; exact Back.frame (fr := [_]) k⟩
            · fin_run
              exact ih _ item _ _ ((wf_all hw).1 item hi) (by omega) (Nat.le_trans (flat_sub hi) hz) (R'.mono (by omega)) ⟨⟨_, rfl⟩, rfl⟩
            · fin_run
              exact ⟨⟨_, rfl⟩, rfl⟩
        | false =>
          rw [regs_gen hR (fun h => by rw [hA] at h; cases h)] at k hz
          fin_run
          refine e_flat (regsV n) id (R'.handled) (by with_unfolding_all rfl) (by decide +kernel) (by kernel_rfl) (by decide +kernel) (by kernel_rfl) (by kernel_rfl) ?_
          fin_run
          refine ⟨l, rfl, rfl, hz, fun C it D old rest acc item hi => ?_, fun C it1 it D old1 rest1 rest acc1 item item1 _ _ => ?_, by rw [List.map_id]; exact Back.frame (fr := [_]) k⟩
          · fin_run
            exact ih _ item _ _ ((wf_all hw).1 item hi) (by omega) (Nat.le_trans (flat_sub hi) hz) (R'.mono (by omega)) ⟨⟨_, rfl⟩, rfl⟩
          · fin_run
            exact ⟨⟨_, rfl⟩, rfl⟩
end
section
set_option linter.all false
/-! what the law draws -/
theorem one_ok {c : Cx} {A : Around} {sa : Addr} {l : List AV} {d : AV} {H : HL} {K : AV → HL → Prop} (hd : d = .tup l ∨ d = .lst l) (hs : (sa, MO.src) ∈ H) (h0 : 0 < l.length) (hz : l.length < 1000) (R : Room 2 A)
    (k : ∀ x ∈ l, K x H) : AC c A (.adr 280) [.adr sa, d] H K := by
  refine ac_fn (c := c) (f := 280) [Str.ofString "source", Str.ofString "things"] 1 (fun L => [(L, .ns [("things", d), ("source", .adr sa)])]) R ?hb ?hk rfl rfl ?hfr (by kernel_rfl) (by kernel_rfl) (by kernel_rfl) ?hnd (by kernel_rfl) (by kernel_rfl) (by kernel_rfl) ?h
  case hb => exact len2 fun _ _ => by kernel_rfl
  case hnd => intro L; exact List.nodup_nil
  case hfr => intro L; kernel_rfl
  case hk => intro n L hn; simp only [List.mem_cons, List.not_mem_nil, or_false] at hn; rcases hn with rfl | rfl <;> exact .inl (by kernel_rfl)
  intro L A' R'
  have fin : ∀ i : Int, 0 ≤ i → i < l.length → ∃ x, l[i.toNat]? = some x ∧ x ∈ l := fun i h1 h2 => by
    have h : i.toNat < l.length := by omega
    exact ⟨l[i.toNat], List.getElem?_eq_getElem h, List.getElem_mem h⟩
  rcases hd with rfl | rfl
  · fin_run
    refine ac_len_tup (by omega) ?_
    fin_run
    refine take_ok (List.mem_append_right _ hs) (by omega) (by omega) R' fun i h1 h2 => ?_
    obtain ⟨x, hx, hm⟩ := fin i h1 h2
    refine os_tup h1 hx (by omega) ?_
    exact Back.frame (fr := [_]) (k x hm)
  · fin_run
    refine ac_len_lst (by omega) ?_
    fin_run
    refine take_ok (List.mem_append_right _ hs) (by omega) (by omega) R' fun i h1 h2 => ?_
    obtain ⟨x, hx, hm⟩ := fin i h1 h2
    refine os_lst h1 hx (by omega) ?_
    exact Back.frame (fr := [_]) (k x hm)
/-- a type the law may draw: its names come from a list -/
noncomputable def drawnT (names : List AV) : Nat → Ty → Prop
  | _, .int => True
  | 0, _ => False
  | k + 1, .ref r _ t => r ∈ names ∧ drawnT names k t
  | k + 1, .box t => drawnT names k t
  | _ + 1, .arr _ => False
  | k + 1, .tup a (.arr b) => drawnT names k a ∧ drawnT names k b
  | _ + 1, .tup _ _ => False
  | k + 1, .adt r s t => r ∈ names ∧ s ∈ names ∧ drawnT names k t
theorem type_ok {c : Cx} {sa : Addr} {names : List AV} (h0 : 0 < names.length) (hz : names.length < 1000) : ∀ (k : Nat) (A : Around) (H : HL) (K : AV → HL → Prop), (sa, MO.src) ∈ H → Room (k + 4) A →
    (∀ t, drawnT names k t → K (emb t) H) → AC c A (.adr 287) [.adr sa, .lst names, .int k] H K := by
  intro k
  induction k with
  | zero =>
    intro A H K hs R kk
    refine ac_fn (c := c) (f := 287) [Str.ofString "source", Str.ofString "names", Str.ofString "deep"] 3 (fun L => [(L, .ns [("deep", .int 0), ("names", .lst names), ("source", .adr sa)])]) R ?hb ?hk rfl rfl ?hfr (by kernel_rfl) (by kernel_rfl) (by kernel_rfl) ?hnd (by kernel_rfl) (by kernel_rfl) (by kernel_rfl) ?h
    case hb => exact len3 fun _ _ _ => by kernel_rfl
    case hnd => intro L; exact List.nodup_nil
    case hfr => intro L; kernel_rfl
    case hk => intro n L hn; simp only [List.mem_cons, List.not_mem_nil, or_false] at hn; rcases hn with rfl | rfl | rfl <;> exact .inl (by kernel_rfl)
    intro L A' R'
    fin_run
    exact Back.frame (fr := [_]) (kk .int trivial)
  | succ k ih =>
    intro A H K hs R kk
    refine ac_fn (c := c) (f := 287) [Str.ofString "source", Str.ofString "names", Str.ofString "deep"] (k + 4) (fun L => [(L, .ns [("deep", .int (k + 1 : Nat)), ("names", .lst names), ("source", .adr sa)])]) R ?jb ?jk rfl rfl ?jfr (by kernel_rfl) (by kernel_rfl) (by kernel_rfl) ?jnd (by kernel_rfl) (by kernel_rfl) (by kernel_rfl) ?j
    case jb => exact len3 fun _ _ _ => by kernel_rfl
    case jnd => intro L; exact List.nodup_nil
    case jfr => intro L; kernel_rfl
    case jk => intro n L hn; simp only [List.mem_cons, List.not_mem_nil, or_false] at hn; rcases hn with rfl | rfl | rfl <;> exact .inl (by kernel_rfl)
    intro L A' R'
    have hs' : ∀ fr : HL, (sa, MO.src) ∈ fr ++ H := fun fr => List.mem_append_right _ hs
    have sub : ((k + 1 : Nat) : Int) - 1 = (k : Nat) := by omega
    fin_run
    refine ⟨true, congrArg AV.bool (decide_eq_true (by omega)), fun _ => ?_, fun hb => Bool.noConfusion hb⟩
    fin_run
    refine take_ok (hs' [_]) (by omega) (by omega) (R'.mono (by omega)) fun i h1 h2 => ?_
    have call : ∀ (ns : List (Str × AV)) (K' : AV → HL → Prop), (∀ t, drawnT names k t → K' (emb t) ((L, .ns ns) :: H)) → AC c A' (.adr 287) [.adr sa, .lst names, .int (((k + 1 : Nat) : Int) - 1)] ((L, .ns ns) :: H) K' := fun ns K' h => by
      rw [sub]
      exact ih A' _ _ (.tail _ hs) R' h
    have pick : ∀ (ns : List (Str × AV)) (K' : AV → HL → Prop), (∀ r ∈ names, K' r ((L, .ns ns) :: H)) → AC c A' (.adr 280) [.adr sa, .lst names] ((L, .ns ns) :: H) K' := fun ns K' h =>
      one_ok (.inr rfl) (.tail _ hs) h0 hz (R'.mono (by omega)) h
    fin_run
    refine ⟨_, rfl, fun hb => ?_, fun hb => ?_⟩
    · fin_run
      exact Back.frame (fr := [_]) (kk .int trivial)
    fin_run
    refine ⟨_, rfl, fun hb => ?_, fun hb => ?_⟩
    · fin_run
      refine pick _ _ fun r hr => ?_
      fin_run
      refine call _ _ fun t ht => ?_
      fin_run
      exact Back.frame (fr := [_]) (kk (.ref r _ t) ⟨hr, ht⟩)
    fin_run
    refine ⟨_, rfl, fun hb => ?_, fun hb => ?_⟩
    · fin_run
      refine call _ _ fun t ht => ?_
      fin_run
      exact Back.frame (fr := [_]) (kk (.box t) ht)
    fin_run
    refine ⟨_, rfl, fun hb => ?_, fun hb => ?_⟩
    · fin_run
      refine call _ _ fun a ha => ?_
      fin_run
      refine call _ _ fun b hb => ?_
      fin_run
      exact Back.frame (fr := [_]) (kk (.tup a (.arr b)) ⟨ha, hb⟩)
    fin_run
    refine pick _ _ fun r hr => ?_
    fin_run
    refine pick _ _ fun s hs => ?_
    fin_run
    refine call _ _ fun t ht => ?_
    fin_run
    exact Back.frame (fr := [_]) (kk (.adt r s t) ⟨hr, hs, ht⟩)
/-- an operand the law may draw -/
noncomputable def drawnO : Op → Prop
  | .copy i => i = 1
  | .move => True
  | .const t => drawnT [.none] 2 t
theorem opnd_ok {c : Cx} {sa : Addr} {A : Around} {H : HL} {K : AV → HL → Prop} (hs : (sa, MO.src) ∈ H) (R : Room 8 A) (kk : ∀ o, drawnO o → K (embO o) H) : AC c A (.adr 304) [.adr sa] H K := by
  refine ac_fn (c := c) (f := 304) [Str.ofString "source"] 7 (fun L => [(L, .ns [("source", .adr sa)])]) R ?hb ?hk rfl rfl ?hfr (by kernel_rfl) (by kernel_rfl) (by kernel_rfl) ?hnd (by kernel_rfl) (by kernel_rfl) (by kernel_rfl) ?h
  case hb => exact len1 fun _ => by kernel_rfl
  case hnd => intro L; exact List.nodup_nil
  case hfr => intro L; kernel_rfl
  case hk => intro n L hn; simp only [List.mem_cons, List.not_mem_nil, or_false] at hn; rcases hn with rfl; exact .inl (by kernel_rfl)
  intro L A' R'
  fin_run
  refine e_list ?_
  fin_run
  refine e_list ?_
  fin_run
  refine type_ok (names := [.none]) (by decide) (by decide) 2 _ _ _ (List.mem_append_right _ hs) (R'.mono (by omega)) fun t ht => ?_
  fin_run
  refine one_ok (l := [_, _, _]) (.inr rfl) (List.mem_append_right _ hs) (by simp) (by simp) (R'.mono (by omega)) fun x hx => ?_
  simp only [List.mem_cons, List.not_mem_nil, or_false] at hx
  rcases hx with rfl | rfl | rfl
  · exact Back.frame (fr := [_]) (kk (.copy 1) rfl)
  · exact Back.frame (fr := [_]) (kk .move trivial)
  · exact Back.frame (fr := [_]) (kk (.const t) ht)
end
section
set_option linter.all false
noncomputable def drawnR : Rv → Prop
  | .ref r m p => r = .none ∧ (m = "mut" ∧ p = .tup [.int 1, .tup [.tup [.str "field", .int 0]]] ∨ m = "shared" ∧ p = .tup [.int 2, .tup []])
  | .use o => drawnO o
  | .box o => drawnO o
  | .cast o t => drawnO o ∧ drawnT [.none] 2 t
  | .adt t os => ∃ s o, t = .adt .none .none s ∧ drawnT [.none] 2 s ∧ drawnO o ∧ os = [o, o]
  | .bin a b => drawnO a ∧ b = a
  | .tup os => ∃ o, drawnO o ∧ os = [o, .copy 0]
theorem s_pairL {c : Cx} {A : Around} {env : Env} {a b : Str} {p q : Pos} {k : Nat} {tpos pos : Pos} {e : Expr} {H : HL} {Kn : HL → Prop} {Kr : AV → HL → Prop} (hh : A.handled = none) (h : AE c A env e H fun d H₁ => ∃ d1 d2, d = .tup [d1, d2] ∧ ST c A env b d2 H₁ fun H₂ => ST c A env a d1 H₂ Kn)
    (hs : swapsWithSole [.Tuple [.Name a p, .Name b q] k tpos] e pos.line env = pure false := by with_unfolding_all rfl) (hw : swappedStores [.Tuple [.Name a p, .Name b q] k tpos] e env = pure (some [a, b]) := by with_unfolding_all rfl) :
    AS c A env (.Assign [.Tuple [.Name a p, .Name b q] k tpos] e pos) H Kn Kr := s_pairX hh h hs hw
theorem stm_ok {c : Cx} {sa : Addr} {A : Around} {H : HL} {K : AV → HL → Prop} (hs : (sa, MO.src) ∈ H) (R : Room 10 A) (kk : ∀ v, drawnR v → K (embS (.assign v)) H) : AC c A (.adr 311) [.adr sa] H K := by
  refine ac_fn (c := c) (f := 311) [Str.ofString "source"] 9 (fun L => [(L, .ns [("source", .adr sa)])]) R ?hb ?hk rfl rfl ?hfr (by kernel_rfl) (by kernel_rfl) (by kernel_rfl) ?hnd (by kernel_rfl) (by kernel_rfl) (by kernel_rfl) ?h
  case hb => exact len1 fun _ => by kernel_rfl
  case hnd => intro L; exact List.nodup_nil
  case hfr => intro L; kernel_rfl
  case hk => intro n L hn; simp only [List.mem_cons, List.not_mem_nil, or_false] at hn; rcases hn with rfl; exact .inl (by kernel_rfl)
  intro L A' R'
  refine s_cons (s_pairL R'.handled ?_)
  fin_run
  refine take_ok (List.mem_append_right _ hs) (by omega) (by omega) (R'.mono (by omega)) fun i h1 h2 => ?_
  fin_run
  refine opnd_ok (List.mem_append_right _ hs) (R'.mono (by omega)) fun o ho => ?_
  fin_run
  refine ⟨_, _, rfl, ?_⟩
  fin_run
  refine e_list ?_
  fin_run
  refine type_ok (names := [.none]) (by decide) (by decide) 2 _ _ _ (.tail _ hs) (R'.mono (by omega)) fun t ht => ?_
  fin_run
  refine e_list ?_
  fin_run
  obtain ⟨x, hx, hm⟩ : ∃ x, ([embR (.ref .none "mut" (.tup [.int 1, .tup [.tup [.str "field", .int 0]]])), embR (.ref .none "shared" (.tup [.int 2, .tup []])), embR (.use o), embR (.cast o t), embR (.adt (.adt .none .none t) [o, o]), embR (.bin o o), embR (.tup [o, .copy 0]), embR (.box o)] : List AV)[i.toNat]? = some x ∧ ∃ v, drawnR v ∧ x = embR v := by
    have : i = 0 ∨ i = 1 ∨ i = 2 ∨ i = 3 ∨ i = 4 ∨ i = 5 ∨ i = 6 ∨ i = 7 := by omega
    rcases this with rfl | rfl | rfl | rfl | rfl | rfl | rfl | rfl
    · exact ⟨_, rfl, .ref .none "mut" _, ⟨rfl, .inl ⟨rfl, rfl⟩⟩, rfl⟩
    · exact ⟨_, rfl, .ref .none "shared" _, ⟨rfl, .inr ⟨rfl, rfl⟩⟩, rfl⟩
    · exact ⟨_, rfl, .use o, ho, rfl⟩
    · exact ⟨_, rfl, .cast o t, ⟨ho, ht⟩, rfl⟩
    · exact ⟨_, rfl, .adt _ _, ⟨t, o, rfl, ht, ho, rfl⟩, rfl⟩
    · exact ⟨_, rfl, .bin o o, ⟨ho, rfl⟩, rfl⟩
    · exact ⟨_, rfl, .tup _, ⟨o, ho, rfl⟩, rfl⟩
    · exact ⟨_, rfl, .box o, ho, rfl⟩
  refine os_lst h1 hx (by simp) ?_
  obtain ⟨v, hv, rfl⟩ := hm
  fin_run
  exact Back.frame (fr := [_]) (kk v hv)

noncomputable def drawnE (many : Int) : Tm → Prop
  | .ret => True
  | .goto g => 0 ≤ g ∧ g < many
  | .callF ts os g => ∃ t o, ts = [t] ∧ drawnT [.none] 2 t ∧ os = [o] ∧ drawnO o ∧ 0 ≤ g ∧ g < many
  | .callM t ts os g => ∃ o, ts = [t] ∧ drawnT [.none] 2 t ∧ os = [o, o] ∧ drawnO o ∧ 0 ≤ g ∧ g < many
  | .switch o g => drawnO o ∧ 0 ≤ g ∧ g < many
  | .assert o g => drawnO o ∧ 0 ≤ g ∧ g < many
theorem end_ok {c : Cx} {sa : Addr} {many : Int} {A : Around} {H : HL} {K : AV → HL → Prop} (hs : (sa, MO.src) ∈ H) (hm : 0 < many) (hm' : many < 1000) (R : Room 10 A) (kk : ∀ v, drawnE many v → K (embT v) H) : AC c A (.adr 318) [.adr sa, .int many] H K := by
  refine ac_fn (c := c) (f := 318) [Str.ofString "source", Str.ofString "many"] 9 (fun L => [(L, .ns [("many", .int many), ("source", .adr sa)])]) R ?hb ?hk rfl rfl ?hfr (by kernel_rfl) (by kernel_rfl) (by kernel_rfl) ?hnd (by kernel_rfl) (by kernel_rfl) (by kernel_rfl) ?h
  case hb => exact len2 fun _ _ => by kernel_rfl
  case hnd => intro L; exact List.nodup_nil
  case hfr => intro L; kernel_rfl
  case hk => intro n L hn; simp only [List.mem_cons, List.not_mem_nil, or_false] at hn; rcases hn with rfl | rfl <;> exact .inl (by kernel_rfl)
  intro L A' R'
  refine s_cons (s_pairL R'.handled ?_)
  fin_run
  refine take_ok (List.mem_append_right _ hs) (by omega) (by omega) (R'.mono (by omega)) fun i h1 h2 => ?_
  fin_run
  refine opnd_ok (List.mem_append_right _ hs) (R'.mono (by omega)) fun o ho => ?_
  fin_run
  refine ⟨_, _, rfl, ?_⟩
  fin_run
  refine e_list ?_
  fin_run
  refine type_ok (names := [.none]) (by decide) (by decide) 2 _ _ _ (.tail _ hs) (R'.mono (by omega)) fun t ht => ?_
  fin_run
  refine take_ok (.tail _ hs) hm hm' (R'.mono (by omega)) fun g g1 g2 => ?_
  fin_run
  refine e_list ?_
  fin_run
  obtain ⟨x, hx, hmm⟩ : ∃ x, ([embT .ret, embT (.goto g), embT (.callF [t] [o] g), embT (.callM t [t] [o, o] g), embT (.switch o g), embT (.assert o g)] : List AV)[i.toNat]? = some x ∧ ∃ v, drawnE many v ∧ x = embT v := by
    have : i = 0 ∨ i = 1 ∨ i = 2 ∨ i = 3 ∨ i = 4 ∨ i = 5 := by omega
    rcases this with rfl | rfl | rfl | rfl | rfl | rfl
    · exact ⟨_, rfl, .ret, trivial, rfl⟩
    · exact ⟨_, rfl, .goto g, ⟨g1, g2⟩, rfl⟩
    · exact ⟨_, rfl, .callF [t] [o] g, ⟨t, o, rfl, ht, rfl, ho, g1, g2⟩, rfl⟩
    · exact ⟨_, rfl, .callM t [t] [o, o] g, ⟨o, rfl, ht, rfl, ho, g1, g2⟩, rfl⟩
    · exact ⟨_, rfl, .switch o g, ⟨ho, g1, g2⟩, rfl⟩
    · exact ⟨_, rfl, .assert o g, ⟨ho, g1, g2⟩, rfl⟩
  refine os_lst h1 hx (by simp) ?_
  obtain ⟨v, hv, rfl⟩ := hmm
  exact Back.frame (fr := [_]) (kk v hv)
theorem ints_big {x : Int} : max x (-1 - x) = (if -1 - x > x then -1 - x else x) := by
  by_cases h : -1 - x > x
  · rw [if_pos h]; omega
  · rw [if_neg h]; omega
theorem e_listS {c : Cx} {A : Around} {env : Env} {H : HL} {K : AV → HL → Prop} {es : List Expr} {pos : Pos} (h : AL c A env pos es H fun ds H₁ => ∃ x y, ds = [.int x, .int y] ∧ 0 ≤ x ∧ x.natAbs.log2 < 2 ^ 21 ∧ 0 ≤ y ∧ y < drawMax ∧ ∀ a, K (.adr a) ((a, .src) :: H₁)) : AE c A env (.List es pos) H K := by
  intro s E Q I P
  refine e_listM (K := fun d H' => ∃ a x y H₁, d = .adr a ∧ H' = (a, .lst [.int x, .int y]) :: H₁ ∧ 0 ≤ x ∧ x.natAbs.log2 < 2 ^ 21 ∧ 0 ≤ y ∧ y < drawMax ∧ K (.adr a) ((a, .src) :: H₁)) (fun s E Q I P => h s E Q I fun s' vs ds H' I' S hv k => P s' vs ds H' I' S hv ?_) s E Q I fun s' v d H' I' S hv k => ?_
  · obtain ⟨x, y, rfl, h1, h2, h3, h4, k⟩ := k
    exact ⟨by simp, fun a => ⟨a, x, y, H', rfl, rfl, h1, h2, h3, h4, k a⟩⟩
  · obtain ⟨a, x, y, H₁, rfl, rfl, h1, h2, h3, h4, k⟩ := k
    cases hv
    exact P s' _ (.adr a) _ (Inv.lst_src (pre := []) I' h1 h2 h3 h4) S rfl k
theorem pool_ok {c : Cx} {l : List Int} {A : Around} {H : HL} {K : AV → HL → Prop} (hz : l.length ≤ 1000) (hb : ∀ n ∈ l, n.natAbs.log2 < 2 ^ 21) (R : Room 2 A) (kk : ∀ a, K (.adr a) ((a, .src) :: H)) : AC c A (.adr 266) [.scr l, .int 0] H K := by
  refine ac_fn (c := c) (f := 266) [Str.ofString "script", Str.ofString "k"] 1 (fun L => [(L, .ns [("k", .int 0), ("script", .scr l)])]) R ?hb ?hk rfl rfl ?hfr (by kernel_rfl) (by kernel_rfl) (by kernel_rfl) ?hnd (by kernel_rfl) (by kernel_rfl) (by kernel_rfl) ?h
  case hb => exact len2 fun _ _ => by kernel_rfl
  case hnd => intro L; exact List.nodup_nil
  case hfr => intro L; kernel_rfl
  case hk => intro n L hn; simp only [List.mem_cons, List.not_mem_nil, or_false] at hn; rcases hn with rfl | rfl <;> exact .inl (by kernel_rfl)
  intro L A' R'
  refine s_cons (s_assign (e_int ?_))
  refine st_local (pre := []) (by kernel_rfl) (by kernel_rfl) ?_
  refine s_cut (fun H₁ => ∃ x ns, x.natAbs.log2 < 2 ^ 21 ∧ H₁ = (L, .ns (("cell", .int x) :: ns)) :: H ∧ ns.lookup (Str.ofString "k") = some (AV.int 0)) ?_ ?_
  · fin_run
    refine ac_len_scr (by omega) ?_
    fin_run
    refine ⟨_, rfl, fun hb' => ?_, fun hb' => ?_⟩
    · have hl : 0 < l.length := by simpa using hb'
      fin_run
      refine os_scr (n := l[0]) (by decide) (by simp) (by omega) ?_
      fin_run
      exact ⟨l[0], _, hb _ (List.getElem_mem hl), rfl, by with_unfolding_all rfl⟩
    · fin_run
      exact ⟨0, _, by decide, rfl, by with_unfolding_all rfl⟩
  · rintro H₁ ⟨x, ns, hx, rfl, hk⟩
    have hlog : ∀ y : Int, (y = x ∨ y = -1 - x) → 0 ≤ y → y.natAbs.log2 < 2 ^ 21 := fun y hy h0 => by
      refine Nat.lt_of_le_of_lt ?_ hx
      have hle : y.natAbs ≤ x.natAbs := by omega
      by_cases hz : y.natAbs = 0
      · rw [hz]; exact Nat.zero_le _
      · exact (Nat.le_log2 (by omega)).mpr (Nat.le_trans (Nat.log2_self_le hz) hle)
    refine s_cons (s_assign ?_)
    fin_run
    refine ac_max R' ?_
    obtain ⟨b, hbig, hb0, hbl⟩ : ∃ b, (if -1 - x > x then -1 - x else x) = b ∧ 0 ≤ b ∧ b.natAbs.log2 < 2 ^ 21 := by
      by_cases h : -1 - x > x
      · rw [if_pos h]; exact ⟨_, rfl, by omega, hlog _ (.inr rfl) (by omega)⟩
      · rw [if_neg h]; exact ⟨_, rfl, by omega, hlog _ (.inl rfl) (by omega)⟩
    have e1 : (-1 : Int) - x = -1 - x := rfl
    rw [hbig]
    refine st_local (pre := []) (by kernel_rfl) (by kernel_rfl) ?_
    have hkl : ∀ v : AV, ((Str.ofString "big", v) :: (Str.ofString "cell", AV.int x) :: ns).lookup (Str.ofString "k") = some (.int 0) := fun v => hk
    have kname : ∀ (pos : Pos) (K' : AV → HL → Prop), K' (.int 0) ((L, .ns ((Str.ofString "big", .int b) :: (Str.ofString "cell", AV.int x) :: ns)) :: H) → AE c A' (fenv c 266 L) (.Name (Str.ofString "k") pos) ((L, .ns ((Str.ofString "big", .int b) :: (Str.ofString "cell", AV.int x) :: ns)) :: H) K' := fun pos K' h =>
      e_local (by kernel_rfl) (by kernel_rfl) (by with_unfolding_all rfl) (.head _) (hkl _) h
    refine s_cons (s_assign ?_)
    fin_run
    refine ob_mod (by omega) ?_
    have m1 := fmod_nn (a := b) (b := 2147483629) (by omega)
    fin_run
    refine kname _ _ ?_
    refine ob_mul (.of_left (bits_le (by decide))) ?_
    fin_run
    refine kname _ _ ?_
    refine ob_mul (.of_left (bits_le (by decide))) ?_
    fin_run
    refine kname _ _ ?_
    refine ob_mul (.of_left (bits_le (by decide))) ?_
    fin_run
    refine ob_mul (.of_left (bits_le (by omega))) ?_
    fin_run
    refine ob_mod (by omega) ?_
    generalize hm : (_ : Int).fmod 2147483647 = mx
    have m2 : 0 ≤ mx ∧ mx < 2147483647 := by rw [← hm]; exact fmod_nn (by omega)
    fin_run
    refine e_listS ?_
    fin_run
    refine ob_pow (by decide) (by with_unfolding_all decide) ?_
    fin_run
    refine ob_mul (.of_right (bits_le (by split <;> decide))) ?_
    fin_run
    refine ⟨_, mx, rfl, ?_, ?_, m2.1, m2.2, fun a => ?_⟩
    · split
      · omega
      · omega
    · split
      · rw [Int.mul_one]; exact hbl
      · rw [Int.mul_zero]; decide
    · exact ⟨[_], _, perm_c, kk a⟩
end
section
set_option linter.all false
theorem so_World_modules (P : Params) : SetOk (Mine.hd.heap_1 P) 255 "modules" := ⟨by kernel_rfl, by kernel_rfl, by kernel_rfl, by kernel_rfl⟩
theorem so_World_adts (P : Params) : SetOk (Mine.hd.heap_1 P) 255 "adts" := ⟨by kernel_rfl, by kernel_rfl, by kernel_rfl, by kernel_rfl⟩
theorem so_World_variants (P : Params) : SetOk (Mine.hd.heap_1 P) 255 "variants" := ⟨by kernel_rfl, by kernel_rfl, by kernel_rfl, by kernel_rfl⟩
theorem so_World_sigs (P : Params) : SetOk (Mine.hd.heap_1 P) 255 "sigs" := ⟨by kernel_rfl, by kernel_rfl, by kernel_rfl, by kernel_rfl⟩
theorem so_World_traits (P : Params) : SetOk (Mine.hd.heap_1 P) 255 "traits" := ⟨by kernel_rfl, by kernel_rfl, by kernel_rfl, by kernel_rfl⟩
theorem so_World_impls (P : Params) : SetOk (Mine.hd.heap_1 P) 255 "impls" := ⟨by kernel_rfl, by kernel_rfl, by kernel_rfl, by kernel_rfl⟩
theorem so_World_consts (P : Params) : SetOk (Mine.hd.heap_1 P) 255 "consts" := ⟨by kernel_rfl, by kernel_rfl, by kernel_rfl, by kernel_rfl⟩
theorem so_World_bodies (P : Params) : SetOk (Mine.hd.heap_1 P) 255 "bodies" := ⟨by kernel_rfl, by kernel_rfl, by kernel_rfl, by kernel_rfl⟩
theorem so_Sig_path (P : Params) : SetOk (Mine.hd.heap_1 P) 226 "path" := ⟨by kernel_rfl, by kernel_rfl, by kernel_rfl, by kernel_rfl⟩
theorem so_Sig_regions (P : Params) : SetOk (Mine.hd.heap_1 P) 226 "regions" := ⟨by kernel_rfl, by kernel_rfl, by kernel_rfl, by kernel_rfl⟩
theorem so_Sig_params (P : Params) : SetOk (Mine.hd.heap_1 P) 226 "params" := ⟨by kernel_rfl, by kernel_rfl, by kernel_rfl, by kernel_rfl⟩
theorem so_Sig_own (P : Params) : SetOk (Mine.hd.heap_1 P) 226 "own" := ⟨by kernel_rfl, by kernel_rfl, by kernel_rfl, by kernel_rfl⟩
theorem so_Sig_inputs (P : Params) : SetOk (Mine.hd.heap_1 P) 226 "inputs" := ⟨by kernel_rfl, by kernel_rfl, by kernel_rfl, by kernel_rfl⟩
theorem so_Sig_output (P : Params) : SetOk (Mine.hd.heap_1 P) 226 "output" := ⟨by kernel_rfl, by kernel_rfl, by kernel_rfl, by kernel_rfl⟩
theorem so_Sig_self_kind (P : Params) : SetOk (Mine.hd.heap_1 P) 226 "self_kind" := ⟨by kernel_rfl, by kernel_rfl, by kernel_rfl, by kernel_rfl⟩
theorem so_Sig_has_body (P : Params) : SetOk (Mine.hd.heap_1 P) 226 "has_body" := ⟨by kernel_rfl, by kernel_rfl, by kernel_rfl, by kernel_rfl⟩
theorem so_Body_name (P : Params) : SetOk (Mine.hd.heap_1 P) 82 "name" := ⟨by kernel_rfl, by kernel_rfl, by kernel_rfl, by kernel_rfl⟩
theorem so_Body_arg_count (P : Params) : SetOk (Mine.hd.heap_1 P) 82 "arg_count" := ⟨by kernel_rfl, by kernel_rfl, by kernel_rfl, by kernel_rfl⟩
theorem so_Body_locals (P : Params) : SetOk (Mine.hd.heap_1 P) 82 "locals" := ⟨by kernel_rfl, by kernel_rfl, by kernel_rfl, by kernel_rfl⟩
theorem so_Body_blocks (P : Params) : SetOk (Mine.hd.heap_1 P) 82 "blocks" := ⟨by kernel_rfl, by kernel_rfl, by kernel_rfl, by kernel_rfl⟩
theorem so_Body_spots (P : Params) : SetOk (Mine.hd.heap_1 P) 82 "spots" := ⟨by kernel_rfl, by kernel_rfl, by kernel_rfl, by kernel_rfl⟩
theorem so_Numbers_universal (P : Params) : SetOk (Mine.hd.heap_1 P) 155 "universal" := ⟨by kernel_rfl, by kernel_rfl, by kernel_rfl, by kernel_rfl⟩
theorem so_Numbers_count (P : Params) : SetOk (Mine.hd.heap_1 P) 155 "count" := ⟨by kernel_rfl, by kernel_rfl, by kernel_rfl, by kernel_rfl⟩
theorem g_STATIC (P : Params) : nsIn (Mine.hd.heap_1 P) mainGlobals (Str.ofString "STATIC") = some (some (.str (Str.ofString "'static") 309)) := by kernel_rfl
theorem permN {α : Type _} (u l d : α) (H : List α) : (u :: l :: d :: H).Perm (l :: d :: u :: H) := (List.Perm.swap l u _).trans (.cons _ (.swap d u _))
theorem perm6 {α : Type _} (a6 a5 a4 a3 a2 a1 L d : α) (H : List α) : (a6 :: a5 :: a4 :: a3 :: a2 :: a1 :: L :: d :: H).Perm (a6 :: a5 :: a4 :: a2 :: a1 :: L :: d :: a3 :: H) :=
  .cons _ (.cons _ (.cons _ ((List.Perm.swap a2 a3 _).trans (.cons _ ((List.Perm.swap a1 a3 _).trans (.cons _ ((List.Perm.swap L a3 _).trans (.cons _ (.swap d a3 _)))))))))
theorem worldInit_ok {c : Cx} {A : Around} {dx : Addr} {H : HL} {K : AV → HL → Prop} (R : Room 1 A)
    (k : ∀ a1 a2 a3 a4 a5 a6, K .none ((dx, .dct [("modules", .none), ("adts", .adr a1), ("variants", .adr a2), ("sigs", .adr a3), ("traits", .adr a4), ("impls", .lst []), ("consts", .adr a5), ("bodies", .adr a6)]) :: (a3, .dct []) :: H)) : AF c A 245 [.obj 255 dx, .none] ((dx, .dct []) :: H) K := by
  refine af_fnB (c := c) (f := 245) [Str.ofString "self", Str.ofString "modules"] 0 (fun L => [(L, .ns [("modules", .none), ("self", .obj 255 dx)])]) R ?hb ?hk rfl rfl ?hfr (by kernel_rfl) (by kernel_rfl) (by kernel_rfl) ?hnd (by kernel_rfl) (by kernel_rfl) (by kernel_rfl) ?h
  case hb => intro s vs X; revert vs; exact len2 fun _ _ => by exact kp_binds (K := c.K) X (fun S => by kernel_rfl)
  case hnd => intro L; exact List.nodup_nil
  case hfr => intro L; kernel_rfl
  case hk => intro n L hn; simp only [List.mem_cons, List.not_mem_nil, or_false] at hn; rcases hn with rfl | rfl <;> exact .inl (by kernel_rfl)
  intro L A' R'
  refine s_cons ?_
  refine s_setattr ?_
  fin_run
  refine saB ([] : List (Str × AV)) [(L, _)] H rfl (Nat.le_of_ble_eq_true rfl) (so_World_modules _) ?_
  rw [show putA "modules" (.none) ([] : List (Str × AV)) = ([("modules", .none)] : List (Str × AV)) from by kernel_rfl]
  refine s_cons ?_
  refine s_setattr ?_
  refine e_dict0 fun a1 => ?_
  fin_run
  refine saB ([("modules", .none)] : List (Str × AV)) [(a1, _), (L, _)] H rfl (Nat.le_of_ble_eq_true rfl) (so_World_adts _) ?_
  rw [show putA "adts" (.adr a1) ([("modules", .none)] : List (Str × AV)) = ([("modules", .none), ("adts", .adr a1)] : List (Str × AV)) from by kernel_rfl]
  refine s_cons ?_
  refine s_setattr ?_
  refine e_dict0 fun a2 => ?_
  fin_run
  refine saB ([("modules", .none), ("adts", .adr a1)] : List (Str × AV)) [(a2, _), (a1, _), (L, _)] H rfl (Nat.le_of_ble_eq_true rfl) (so_World_variants _) ?_
  rw [show putA "variants" (.adr a2) ([("modules", .none), ("adts", .adr a1)] : List (Str × AV)) = ([("modules", .none), ("adts", .adr a1), ("variants", .adr a2)] : List (Str × AV)) from by kernel_rfl]
  refine s_cons ?_
  refine s_setattr ?_
  refine e_dict0 fun a3 => ?_
  fin_run
  refine saB ([("modules", .none), ("adts", .adr a1), ("variants", .adr a2)] : List (Str × AV)) [(a3, _), (a2, _), (a1, _), (L, _)] H rfl (Nat.le_of_ble_eq_true rfl) (so_World_sigs _) ?_
  rw [show putA "sigs" (.adr a3) ([("modules", .none), ("adts", .adr a1), ("variants", .adr a2)] : List (Str × AV)) = ([("modules", .none), ("adts", .adr a1), ("variants", .adr a2), ("sigs", .adr a3)] : List (Str × AV)) from by kernel_rfl]
  refine s_cons ?_
  refine s_setattr ?_
  refine e_dict0 fun a4 => ?_
  fin_run
  refine saB ([("modules", .none), ("adts", .adr a1), ("variants", .adr a2), ("sigs", .adr a3)] : List (Str × AV)) [(a4, _), (a3, _), (a2, _), (a1, _), (L, _)] H rfl (Nat.le_of_ble_eq_true rfl) (so_World_traits _) ?_
  rw [show putA "traits" (.adr a4) ([("modules", .none), ("adts", .adr a1), ("variants", .adr a2), ("sigs", .adr a3)] : List (Str × AV)) = ([("modules", .none), ("adts", .adr a1), ("variants", .adr a2), ("sigs", .adr a3), ("traits", .adr a4)] : List (Str × AV)) from by kernel_rfl]
  refine s_cons ?_
  refine s_setattr ?_
  refine e_list ?_
  fin_run
  fin_run
  refine saB ([("modules", .none), ("adts", .adr a1), ("variants", .adr a2), ("sigs", .adr a3), ("traits", .adr a4)] : List (Str × AV)) [(a4, _), (a3, _), (a2, _), (a1, _), (L, _)] H rfl (Nat.le_of_ble_eq_true rfl) (so_World_impls _) ?_
  rw [show putA "impls" (.lst []) ([("modules", .none), ("adts", .adr a1), ("variants", .adr a2), ("sigs", .adr a3), ("traits", .adr a4)] : List (Str × AV)) = ([("modules", .none), ("adts", .adr a1), ("variants", .adr a2), ("sigs", .adr a3), ("traits", .adr a4), ("impls", .lst [])] : List (Str × AV)) from by kernel_rfl]
  refine s_cons ?_
  refine s_setattr ?_
  refine e_dict0 fun a5 => ?_
  fin_run
  refine saB ([("modules", .none), ("adts", .adr a1), ("variants", .adr a2), ("sigs", .adr a3), ("traits", .adr a4), ("impls", .lst [])] : List (Str × AV)) [(a5, _), (a4, _), (a3, _), (a2, _), (a1, _), (L, _)] H rfl (Nat.le_of_ble_eq_true rfl) (so_World_consts _) ?_
  rw [show putA "consts" (.adr a5) ([("modules", .none), ("adts", .adr a1), ("variants", .adr a2), ("sigs", .adr a3), ("traits", .adr a4), ("impls", .lst [])] : List (Str × AV)) = ([("modules", .none), ("adts", .adr a1), ("variants", .adr a2), ("sigs", .adr a3), ("traits", .adr a4), ("impls", .lst []), ("consts", .adr a5)] : List (Str × AV)) from by kernel_rfl]
  refine s_cons ?_
  refine s_setattr ?_
  refine e_dict0 fun a6 => ?_
  fin_run
  refine saB ([("modules", .none), ("adts", .adr a1), ("variants", .adr a2), ("sigs", .adr a3), ("traits", .adr a4), ("impls", .lst []), ("consts", .adr a5)] : List (Str × AV)) [(a6, _), (a5, _), (a4, _), (a3, _), (a2, _), (a1, _), (L, _)] H rfl (Nat.le_of_ble_eq_true rfl) (so_World_bodies _) ?_
  rw [show putA "bodies" (.adr a6) ([("modules", .none), ("adts", .adr a1), ("variants", .adr a2), ("sigs", .adr a3), ("traits", .adr a4), ("impls", .lst []), ("consts", .adr a5)] : List (Str × AV)) = ([("modules", .none), ("adts", .adr a1), ("variants", .adr a2), ("sigs", .adr a3), ("traits", .adr a4), ("impls", .lst []), ("consts", .adr a5), ("bodies", .adr a6)] : List (Str × AV)) from by kernel_rfl]
  refine s_nil ?_
  refine ⟨[(a6, .dct []), (a5, .dct []), (a4, .dct []), (a2, .dct []), (a1, .dct []), (L, .ns [("modules", .none), ("self", .obj 255 dx)])], _, ?_, k a1 a2 a3 a4 a5 a6⟩
  exact perm6 ..

theorem sigInit_ok {c : Cx} {A : Around} {dx : Addr} {v1 v2 v3 v4 v5 v6 v7 v8 : AV} {H : HL} {K : AV → HL → Prop} (R : Room 1 A)
    (k : K .none ((dx, .dct ([("path", v1), ("regions", v2), ("params", v3), ("own", v4), ("inputs", v5), ("output", v6), ("self_kind", v7), ("has_body", v8)] : List (Str × AV))) :: H)) : AF c A 223 [.obj 226 dx, v1, v2, v3, v4, v5, v6, v7, v8] ((dx, .dct []) :: H) K := by
  refine af_fn (c := c) (f := 223) [Str.ofString "self", Str.ofString "path", Str.ofString "regions", Str.ofString "params", Str.ofString "own", Str.ofString "inputs", Str.ofString "output", Str.ofString "self_kind", Str.ofString "has_body"] 0 (fun L => [(L, .ns [("has_body", v8), ("self_kind", v7), ("output", v6), ("inputs", v5), ("own", v4), ("params", v3), ("regions", v2), ("path", v1), ("self", .obj 226 dx)])]) R ?hb ?hk rfl rfl ?hfr (by kernel_rfl) (by kernel_rfl) (by kernel_rfl) ?hnd (by kernel_rfl) (by kernel_rfl) (by kernel_rfl) ?h
  case hb => exact len9 fun _ _ _ _ _ _ _ _ _ => by kernel_rfl
  case hnd => intro L; exact List.nodup_nil
  case hfr => intro L; kernel_rfl
  case hk => intro n L hn; simp only [List.mem_cons, List.not_mem_nil, or_false] at hn; rcases hn with rfl | rfl | rfl | rfl | rfl | rfl | rfl | rfl | rfl <;> exact .inl (by kernel_rfl)
  intro L A' R'
  refine s_cons ?_
  refine s_setattr ?_
  fin_run
  refine saB ([] : List (Str × AV)) [(L, _)] H rfl (Nat.le_of_ble_eq_true rfl) (so_Sig_path _) ?_
  rw [show putA "path" v1 ([] : List (Str × AV)) = ([("path", v1)] : List (Str × AV)) from by kernel_rfl]
  refine s_cons ?_
  refine s_setattr ?_
  fin_run
  refine saB ([("path", v1)] : List (Str × AV)) [(L, _)] H rfl (Nat.le_of_ble_eq_true rfl) (so_Sig_regions _) ?_
  rw [show putA "regions" v2 ([("path", v1)] : List (Str × AV)) = ([("path", v1), ("regions", v2)] : List (Str × AV)) from by kernel_rfl]
  refine s_cons ?_
  refine s_setattr ?_
  fin_run
  refine saB ([("path", v1), ("regions", v2)] : List (Str × AV)) [(L, _)] H rfl (Nat.le_of_ble_eq_true rfl) (so_Sig_params _) ?_
  rw [show putA "params" v3 ([("path", v1), ("regions", v2)] : List (Str × AV)) = ([("path", v1), ("regions", v2), ("params", v3)] : List (Str × AV)) from by kernel_rfl]
  refine s_cons ?_
  refine s_setattr ?_
  fin_run
  refine saB ([("path", v1), ("regions", v2), ("params", v3)] : List (Str × AV)) [(L, _)] H rfl (Nat.le_of_ble_eq_true rfl) (so_Sig_own _) ?_
  rw [show putA "own" v4 ([("path", v1), ("regions", v2), ("params", v3)] : List (Str × AV)) = ([("path", v1), ("regions", v2), ("params", v3), ("own", v4)] : List (Str × AV)) from by kernel_rfl]
  refine s_cons ?_
  refine s_setattr ?_
  fin_run
  refine saB ([("path", v1), ("regions", v2), ("params", v3), ("own", v4)] : List (Str × AV)) [(L, _)] H rfl (Nat.le_of_ble_eq_true rfl) (so_Sig_inputs _) ?_
  rw [show putA "inputs" v5 ([("path", v1), ("regions", v2), ("params", v3), ("own", v4)] : List (Str × AV)) = ([("path", v1), ("regions", v2), ("params", v3), ("own", v4), ("inputs", v5)] : List (Str × AV)) from by kernel_rfl]
  refine s_cons ?_
  refine s_setattr ?_
  fin_run
  refine saB ([("path", v1), ("regions", v2), ("params", v3), ("own", v4), ("inputs", v5)] : List (Str × AV)) [(L, _)] H rfl (Nat.le_of_ble_eq_true rfl) (so_Sig_output _) ?_
  rw [show putA "output" v6 ([("path", v1), ("regions", v2), ("params", v3), ("own", v4), ("inputs", v5)] : List (Str × AV)) = ([("path", v1), ("regions", v2), ("params", v3), ("own", v4), ("inputs", v5), ("output", v6)] : List (Str × AV)) from by kernel_rfl]
  refine s_cons ?_
  refine s_setattr ?_
  fin_run
  refine saB ([("path", v1), ("regions", v2), ("params", v3), ("own", v4), ("inputs", v5), ("output", v6)] : List (Str × AV)) [(L, _)] H rfl (Nat.le_of_ble_eq_true rfl) (so_Sig_self_kind _) ?_
  rw [show putA "self_kind" v7 ([("path", v1), ("regions", v2), ("params", v3), ("own", v4), ("inputs", v5), ("output", v6)] : List (Str × AV)) = ([("path", v1), ("regions", v2), ("params", v3), ("own", v4), ("inputs", v5), ("output", v6), ("self_kind", v7)] : List (Str × AV)) from by kernel_rfl]
  refine s_cons ?_
  refine s_setattr ?_
  fin_run
  refine saB ([("path", v1), ("regions", v2), ("params", v3), ("own", v4), ("inputs", v5), ("output", v6), ("self_kind", v7)] : List (Str × AV)) [(L, _)] H rfl (Nat.le_of_ble_eq_true rfl) (so_Sig_has_body _) ?_
  rw [show putA "has_body" v8 ([("path", v1), ("regions", v2), ("params", v3), ("own", v4), ("inputs", v5), ("output", v6), ("self_kind", v7)] : List (Str × AV)) = ([("path", v1), ("regions", v2), ("params", v3), ("own", v4), ("inputs", v5), ("output", v6), ("self_kind", v7), ("has_body", v8)] : List (Str × AV)) from by kernel_rfl]
  refine s_nil ?_
  exact Back.frame (fr := [_]) k

theorem bodyInit_ok {c : Cx} {A : Around} {dx : Addr} {v1 v2 v4 v5 : AV} {lo : List AV} {H : HL} {K : AV → HL → Prop} (R : Room 1 A) (hz : lo.length ≤ 10000) (h4 : isNoneAV v4 = some false) (h5 : isNoneAV v5 = some false)
    (k : K .none ((dx, .dct ([("name", v1), ("arg_count", v2), ("locals", .lst lo), ("blocks", v4), ("spots", v5)] : List (Str × AV))) :: H)) : AF c A 36 [.obj 82 dx, v1, v2, .lst lo, v4, v5] ((dx, .dct []) :: H) K := by
  refine af_fnB (c := c) (f := 36) [Str.ofString "self", Str.ofString "name", Str.ofString "arg_count", Str.ofString "locals_told", Str.ofString "blocks", Str.ofString "spots"] 0 (fun L => [(L, .ns [("spots", v5), ("blocks", v4), ("locals_told", .lst lo), ("arg_count", v2), ("name", v1), ("self", .obj 82 dx)])]) R ?hb ?hk rfl rfl ?hfr (by kernel_rfl) (by kernel_rfl) (by kernel_rfl) ?hnd (by kernel_rfl) (by kernel_rfl) (by kernel_rfl) ?h
  case hb => intro s vs X; revert vs; exact len6 fun _ _ _ _ _ _ => by exact kp_binds (K := c.K) X (fun S => by kernel_rfl)
  case hnd => intro L; exact List.nodup_nil
  case hfr => intro L; kernel_rfl
  case hk => intro n L hn; simp only [List.mem_cons, List.not_mem_nil, or_false] at hn; rcases hn with rfl | rfl | rfl | rfl | rfl | rfl <;> exact .inl (by kernel_rfl)
  intro L A' R'
  refine s_cons ?_
  refine s_setattr ?_
  fin_run
  refine saB ([] : List (Str × AV)) [(L, _)] H rfl (Nat.le_of_ble_eq_true rfl) (so_Body_name _) ?_
  rw [show putA "name" v1 ([] : List (Str × AV)) = ([("name", v1)] : List (Str × AV)) from by kernel_rfl]
  refine s_cons ?_
  refine s_setattr ?_
  fin_run
  refine saB ([("name", v1)] : List (Str × AV)) [(L, _)] H rfl (Nat.le_of_ble_eq_true rfl) (so_Body_arg_count _) ?_
  rw [show putA "arg_count" v2 ([("name", v1)] : List (Str × AV)) = ([("name", v1), ("arg_count", v2)] : List (Str × AV)) from by kernel_rfl]
  refine s_cons ?_
  refine s_setattr ?_
  fin_run
  refine ac_list_of (l := lo) (.inr rfl) hz ?_
  fin_run
  refine saB ([("name", v1), ("arg_count", v2)] : List (Str × AV)) [(L, _)] H rfl (Nat.le_of_ble_eq_true rfl) (so_Body_locals _) ?_
  rw [show putA "locals" (.lst lo) ([("name", v1), ("arg_count", v2)] : List (Str × AV)) = ([("name", v1), ("arg_count", v2), ("locals", (.lst lo))] : List (Str × AV)) from by kernel_rfl]
  refine s_cons ?_
  refine s_setattr ?_
  fin_run
  refine oc_is h4 ?_
  fin_run
  refine saB ([("name", v1), ("arg_count", v2), ("locals", (.lst lo))] : List (Str × AV)) [(L, _)] H rfl (Nat.le_of_ble_eq_true rfl) (so_Body_blocks _) ?_
  rw [show putA "blocks" v4 ([("name", v1), ("arg_count", v2), ("locals", (.lst lo))] : List (Str × AV)) = ([("name", v1), ("arg_count", v2), ("locals", (.lst lo)), ("blocks", v4)] : List (Str × AV)) from by kernel_rfl]
  refine s_cons ?_
  refine s_setattr ?_
  fin_run
  refine oc_is h5 ?_
  fin_run
  refine saB ([("name", v1), ("arg_count", v2), ("locals", (.lst lo)), ("blocks", v4)] : List (Str × AV)) [(L, _)] H rfl (Nat.le_of_ble_eq_true rfl) (so_Body_spots _) ?_
  rw [show putA "spots" v5 ([("name", v1), ("arg_count", v2), ("locals", (.lst lo)), ("blocks", v4)] : List (Str × AV)) = ([("name", v1), ("arg_count", v2), ("locals", (.lst lo)), ("blocks", v4), ("spots", v5)] : List (Str × AV)) from by kernel_rfl]
  refine s_nil ?_
  exact Back.frame (fr := [_]) k

theorem numbersInit_ok {c : Cx} {A : Around} {dx : Addr} {H : HL} {K : AV → HL → Prop} (R : Room 1 A)
    (k : ∀ ua, K .none ((dx, nst ua 1) :: (ua, .dct [("'static", .int 0)]) :: H)) : AF c A 119 [.obj 155 dx] ((dx, .dct []) :: H) K := by
  refine af_fn (c := c) (f := 119) [Str.ofString "self"] 0 (fun L => [(L, .ns [("self", .obj 155 dx)])]) R ?hb ?hk rfl rfl ?hfr (by kernel_rfl) (by kernel_rfl) (by kernel_rfl) ?hnd (by kernel_rfl) (by kernel_rfl) (by kernel_rfl) ?h
  case hb => exact len1 fun _ => by kernel_rfl
  case hnd => intro L; exact List.nodup_nil
  case hfr => intro L; kernel_rfl
  case hk => intro n L hn; simp only [List.mem_cons, List.not_mem_nil, or_false] at hn; rcases hn with rfl <;> exact .inl (by kernel_rfl)
  intro L A' R'
  refine s_cons ?_
  refine s_setattr ?_
  refine e_dict1 fun ua => ?_
  refine ap_cons ?_
  refine e_global (by kernel_rfl) (by kernel_rfl) (by with_unfolding_all rfl) (g_STATIC _) (d := .str "'static") (fun _ _ => ⟨_, rfl⟩) ?_ (by decide +kernel)
  refine ⟨_, rfl, ?_⟩
  refine e_int ?_
  refine ap_nil ?_
  refine ⟨by simp, _, rfl, ?_⟩
  fin_run
  refine saB ([] : List (Str × AV)) [(ua, _), (L, _)] H rfl (Nat.le_of_ble_eq_true rfl) (so_Numbers_universal _) ?_
  rw [show putA "universal" (.adr ua) ([] : List (Str × AV)) = ([("universal", .adr ua)] : List (Str × AV)) from by kernel_rfl]
  refine s_cons ?_
  refine s_setattr ?_
  fin_run
  refine saB ([("universal", .adr ua)] : List (Str × AV)) [(ua, _), (L, _)] H rfl (Nat.le_of_ble_eq_true rfl) (so_Numbers_count _) ?_
  rw [show putA "count" (.int 1) ([("universal", .adr ua)] : List (Str × AV)) = ([("universal", .adr ua), ("count", .int 1)] : List (Str × AV)) from by kernel_rfl]
  refine s_nil ?_
  exact ⟨[(L, _)], _, permN .., k ua⟩
end
section
set_option linter.all false
theorem c_Sig (P : Params) : makesIn (Mine.hd.heap_1 P) 226 = true := by kernel_rfl
theorem c_Sig' (P : Params) : findIn (Mine.hd.heap_1 P) (.ref 226) "__init__" = some (some (.ref 223)) := by kernel_rfl
theorem c_Sig'' (P : Params) : typeIn (Mine.hd.heap_1 P) (.ref 223) = some (.type "function") := by kernel_rfl
theorem c_World (P : Params) : makesIn (Mine.hd.heap_1 P) 255 = true := by kernel_rfl
theorem c_World' (P : Params) : findIn (Mine.hd.heap_1 P) (.ref 255) "__init__" = some (some (.ref 245)) := by kernel_rfl
theorem c_World'' (P : Params) : typeIn (Mine.hd.heap_1 P) (.ref 245) = some (.type "function") := by kernel_rfl
theorem c_Body (P : Params) : makesIn (Mine.hd.heap_1 P) 82 = true := by kernel_rfl
theorem c_Body' (P : Params) : findIn (Mine.hd.heap_1 P) (.ref 82) "__init__" = some (some (.ref 36)) := by kernel_rfl
theorem c_Body'' (P : Params) : typeIn (Mine.hd.heap_1 P) (.ref 36) = some (.type "function") := by kernel_rfl
theorem c_Numbers (P : Params) : makesIn (Mine.hd.heap_1 P) 155 = true := by kernel_rfl
theorem c_Numbers' (P : Params) : findIn (Mine.hd.heap_1 P) (.ref 155) "__init__" = some (some (.ref 119)) := by kernel_rfl
theorem c_Numbers'' (P : Params) : typeIn (Mine.hd.heap_1 P) (.ref 119) = some (.type "function") := by kernel_rfl
/-- the signature's attributes -/
noncomputable abbrev sigL (a b o : Ty) : List (Str × AV) := [("path", .str "f"), ("regions", .tup [.str "'a", .str "'b", .str "'_1"]), ("params", .tup []), ("own", .tup []), ("inputs", .tup [emb a, emb b]), ("output", emb o), ("self_kind", .none), ("has_body", .bool true)]
theorem sig_ok {c : Cx} {sa : Addr} {names : List AV} {A : Around} {H : HL} {K : AV → HL → Prop} (h0 : names ≠ []) (hz : names.length ≤ 100) (hs : (sa, MO.src) ∈ H) (R : Room 10 A)
    (kk : ∀ dx a b o, drawnT names 2 a → drawnT names 2 b → drawnT names 3 o → K (.obj 226 dx) ((dx, .dct (sigL a b o)) :: H)) : AC c A (.adr 323) [.adr sa, .lst names] H K := by
  refine ac_fn (c := c) (f := 323) [Str.ofString "source", Str.ofString "names"] 9 (fun L => [(L, .ns []), (L + 2, .cell (some (.lst names))), (L + 1, .cell (some (.adr sa)))]) R ?hb ?hk rfl rfl ?hfr (by kernel_rfl) (by kernel_rfl) (by kernel_rfl) ?hnd (by kernel_rfl) (by kernel_rfl) (by kernel_rfl) ?h
  case hb => exact len2 fun _ _ => by kernel_rfl
  case hnd => intro L; exact List.nodup_cons.mpr ⟨by simp; decide, List.nodup_cons.mpr ⟨List.not_mem_nil, List.nodup_nil⟩⟩
  case hfr => intro L; kernel_rfl
  case hk =>
    intro n L hn; simp only [List.mem_cons, List.not_mem_nil, or_false] at hn
    rcases hn with rfl | rfl <;> exact .inr ⟨by kernel_rfl, by kernel_rfl⟩
  intro L A' R'
  have hs' : (sa, MO.src) ∈ [(L, MO.ns []), (L + 2, MO.cell (some (AV.lst names))), (L + 1, MO.cell (some (AV.adr sa)))] ++ H := List.mem_append_right _ hs
  refine s_cons (s_assign ?_)
  fin_run
  refine e_comp (R'.handled) (by with_unfolding_all rfl) (by decide +kernel) (by kernel_rfl) (by decide +kernel) (by kernel_rfl) ?_
  fin_run
  refine ac_range1 ?_
  refine ⟨_, rfl, rfl, by decide, fun done acc H' => H' = [(L, MO.ns []), (L + 2, MO.cell (some (AV.lst names))), (L + 1, MO.cell (some (AV.adr sa)))] ++ H ∧ acc.length = done.length ∧ ∀ x ∈ acc, ∃ t, drawnT names 2 t ∧ x = emb t, ⟨rfl, rfl, by simp⟩, ?_, ?_⟩
  · rintro C it D done item rest acc H' hl ⟨rfl, hlen, ha⟩
    fin_run
    refine type_ok (List.length_pos_iff.mpr h0) (by omega) 2 _ _ _ (.tail _ (.tail _ (.tail _ hs'))) (R'.mono (by omega)) fun t ht => ?_
    refine ⟨_, rfl, rfl, by simp [hlen], fun x hx => ?_⟩
    rcases List.mem_append.mp hx with hx | hx
    · exact ha x hx
    · exact ⟨t, ht, List.mem_singleton.mp hx⟩
  · rintro acc H' ⟨rfl, _, ha⟩ hlen
    obtain ⟨a, b, h1, h2, rfl⟩ : ∃ a b, drawnT names 2 a ∧ drawnT names 2 b ∧ acc = [emb a, emb b] := by
      match acc, hlen, ha with
      | [x, y], _, ha =>
        obtain ⟨a, h1, rfl⟩ := ha _ (.head _)
        obtain ⟨b, h2, rfl⟩ := ha _ (.tail _ (.head _))
        exact ⟨a, b, h1, h2, rfl⟩
    fin_run
    refine ac_tuple_lst (by simp) ?_
    fin_run
    refine type_ok (List.length_pos_iff.mpr h0) (by omega) 3 _ _ _ (List.mem_append_right [(L, _), (L + 2, _), (L + 1, _)] hs) (R'.mono (by omega)) fun o ho => ?_
    fin_run
    refine ac_class (k := 1) (R'.mono (by omega)) (c_Sig _) (c_Sig' _) (c_Sig'' _) fun dx A'' R'' => ?_
    refine sigInit_ok R'' ⟨rfl, ?_⟩
    exact ⟨[_, _, _], (dx, _) :: H, (List.perm_middle (l₁ := [_, _, _]) (l₂ := H)).symm, kk dx a b o h1 h2 ho⟩
end
section
set_option linter.all false
noncomputable abbrev rowV (t : Ty) : AV := .tup [emb t, .bool true, .none]
noncomputable abbrev bodyL (ac : Int) (rows : List Ty) (bl sp : AV) : List (Str × AV) := [("name", .str "f"), ("arg_count", .int ac), ("locals", .lst (rows.map rowV)), ("blocks", bl), ("spots", sp)]
theorem handed_emb {t : Ty} : handedAV (emb t) = true := by cases t <;> rfl
noncomputable def head0 : AV → AV
  | .tup (x :: _) => x
  | d => d
theorem a_locals (P : Params) : AttrOk (Mine.hd.heap_1 P) 82 "locals" := attrOk_of (by kernel_rfl) (by kernel_rfl) (by kernel_rfl)
theorem a_blocks (P : Params) : AttrOk (Mine.hd.heap_1 P) 82 "blocks" := attrOk_of (by kernel_rfl) (by kernel_rfl) (by kernel_rfl)
theorem a_spots (P : Params) : AttrOk (Mine.hd.heap_1 P) 82 "spots" := attrOk_of (by kernel_rfl) (by kernel_rfl) (by kernel_rfl)
theorem a_name (P : Params) : AttrOk (Mine.hd.heap_1 P) 82 "name" := attrOk_of (by kernel_rfl) (by kernel_rfl) (by kernel_rfl)
theorem a_argc (P : Params) : AttrOk (Mine.hd.heap_1 P) 82 "arg_count" := attrOk_of (by kernel_rfl) (by kernel_rfl) (by kernel_rfl)
theorem a_output (P : Params) : AttrOk (Mine.hd.heap_1 P) 226 "output" := attrOk_of (by kernel_rfl) (by kernel_rfl) (by kernel_rfl)
theorem a_inputs (P : Params) : AttrOk (Mine.hd.heap_1 P) 226 "inputs" := attrOk_of (by kernel_rfl) (by kernel_rfl) (by kernel_rfl)
theorem a_regions (P : Params) : AttrOk (Mine.hd.heap_1 P) 226 "regions" := attrOk_of (by kernel_rfl) (by kernel_rfl) (by kernel_rfl)
theorem a_sigs (P : Params) : AttrOk (Mine.hd.heap_1 P) 255 "sigs" := attrOk_of (by kernel_rfl) (by kernel_rfl) (by kernel_rfl)
/-- a signature: none, or its place and types -/
noncomputable abbrev SigO := Option (Addr × Ty × Ty × Ty)
noncomputable def sigV : SigO → AV
  | none => .none
  | some (sx, _) => .obj 226 sx
noncomputable def sigIn (H : HL) : SigO → Prop
  | none => True
  | some (sx, a, b, o) => (sx, .dct (sigL a b o)) ∈ H
/-- the types that the locals get -/
noncomputable def toldTys (rows : List Ty) : SigO → List Ty
  | none => rows
  | some (_, a, b, o) => [o, a, b] ++ rows.drop 3
theorem local_types_ok {c : Cx} {A : Around} {dx ua bx : Addr} {u : List (Str × AV)} {rows : List Ty} {bl sp : AV} {ac n : Int} {sg : SigO} {k : Nat} {pre post : HL} {K : AV → HL → Prop} (hd : ∀ t ∈ toldTys rows sg, dep t < k ∧ goodT u t) (hz : rows.length ≤ 1000) (hac : sg ≠ none → ac = 2) (R : Room (k + 8) A)
    (hu : (ua, MO.dct u) ∈ pre ++ post) (hb : (bx, MO.dct (bodyL ac rows bl sp)) ∈ pre ++ post) (hsg : sigIn (pre ++ post) sg)
    (kk : K (.lst ((numL u n (toldTys rows sg)).1.map emb)) (pre ++ (dx, nst ua (numL u n (toldTys rows sg)).2) :: post)) : AC c A (.adr 204) [.obj 155 dx, .obj 82 bx, sigV sg] (pre ++ (dx, nst ua n) :: post) K := by
  refine ac_fn (c := c) (f := 204) [Str.ofString "numbers", Str.ofString "body", Str.ofString "sig"] (k + 7) (fun L => [(L, .ns [("sig", sigV sg), ("body", .obj 82 bx)]), (L + 1, .cell (some (.obj 155 dx)))]) R ?hb ?hk rfl rfl ?hfr (by kernel_rfl) (by kernel_rfl) (by kernel_rfl) ?hnd (by kernel_rfl) (by kernel_rfl) (by kernel_rfl) ?h
  case hb => exact len3 fun _ _ _ => by kernel_rfl
  case hnd => intro L; exact List.nodup_cons.mpr ⟨List.not_mem_nil, List.nodup_nil⟩
  case hfr => intro L; kernel_rfl
  case hk =>
    intro n L hn; simp only [List.mem_cons, List.not_mem_nil, or_false] at hn
    rcases hn with rfl | rfl | rfl
    · exact .inr ⟨by kernel_rfl, by kernel_rfl⟩
    · exact .inl (by kernel_rfl)
    · exact .inl (by kernel_rfl)
  intro L A' R'
  have lift : ∀ {x : Addr × MO} {m : MO}, x ∈ pre ++ post → x ∈ pre ++ (dx, m) :: post := fun h => by
    rcases List.mem_append.mp h with h | h
    · exact List.mem_append_left _ h
    · exact List.mem_append_right _ (.tail _ h)
  refine s_cut (fun H₁ => ∃ ns : List (Str × AV), H₁ = [(L, .ns (("told", .lst (rows.map emb)) :: ns)), (L + 1, .cell (some (.obj 155 dx)))] ++ (pre ++ (dx, nst ua n) :: post) ∧ ns = [((Str.ofString "sig", sigV sg) : Str × AV), (Str.ofString "body", .obj 82 bx)]) ?_ ?_
  · refine s_comp (R'.handled) (by with_unfolding_all rfl) (by decide +kernel) (by kernel_rfl) (by decide +kernel) (by kernel_rfl) ?_ (by with_unfolding_all rfl)
    refine e_attr ?_
    fin_run
    refine attK2 (List.mem_append_right _ (lift hb)) rfl rfl (a_locals _) ?_
    refine ⟨rows.map rowV, rfl, rfl, by rw [List.length_map]; omega, fun done acc H' => acc = done.map head0 ∧ H' = [(L, .ns [("sig", sigV sg), ("body", .obj 82 bx)]), (L + 1, .cell (some (.obj 155 dx)))] ++ (pre ++ (dx, nst ua n) :: post), ⟨rfl, rfl⟩, ?_, ?_⟩
    · rintro C it D done item rest acc H' hl ⟨rfl, rfl⟩
      obtain ⟨x, hx, rfl, ht⟩ := split_map hl
      fin_run
      exact ⟨_, rfl, by simp [head0], rfl⟩
    · rintro acc H' C m0 ⟨rfl, rfl⟩ hlen
      refine st_local (pre := [_]) (by kernel_rfl) (by kernel_rfl) ?_
      refine ⟨_, rfl, _, ?_, rfl⟩
      have e : (rows.map rowV).map head0 = rows.map emb := by rw [List.map_map]; rfl
      rw [e]; rfl
  · rintro H₁ ⟨ns, rfl, rfl⟩
    refine s_cut (fun H₁ => ∃ ns : List (Str × AV), H₁ = [(L, .ns (("told", .lst ((toldTys rows sg).map emb)) :: ns)), (L + 1, .cell (some (.obj 155 dx)))] ++ (pre ++ (dx, nst ua n) :: post)) ?_ ?_
    · cases sg with
      | none =>
        fin_run
        refine oc_isnot (d := .none) (b := true) rfl ?_
        fin_run
        exact ⟨_, rfl⟩
      | some q =>
        obtain ⟨sx, a, b, o⟩ := q
        cases hac (by simp)
        fin_run
        refine oc_isnot (d := .obj 226 sx) (b := false) rfl ?_
        fin_run
        refine e_list ?_
        refine l_cons (e_attr ?_)
        fin_run
        refine ⟨226, sx, _, _, rfl, List.mem_append_right _ (lift hsg), rfl, handed_emb, a_output _, ?_⟩
        fin_run
        refine e_attr ?_
        fin_run
        refine attK2 (List.mem_append_right _ (lift hsg)) rfl rfl (a_inputs _) ?_
        fin_run
        refine ac_list_of (l := [emb a, emb b]) (.inl rfl) (by simp) ?_
        refine ob_addl (by simp) ?_
        fin_run
        refine e_attr ?_
        fin_run
        refine attK2 (List.mem_append_right _ (lift hb)) rfl rfl (a_argc _) ?_
        fin_run
        refine ⟨3, rfl, .inr ⟨rows.map emb, rfl, by rw [List.length_map]; omega, ?_⟩⟩
        refine ob_addl (by simp; omega) ?_
        fin_run
        refine ⟨[(Str.ofString "told", .lst (rows.map emb)), (Str.ofString "sig", .obj 226 sx), (Str.ofString "body", .obj 82 bx)], ?_⟩
        have e : ([emb o] ++ [emb a, emb b] ++ (rows.map emb).drop 3 : List AV) = (toldTys rows (some (sx, a, b, o))).map emb := by
          show _ = ([o, a, b] ++ rows.drop 3).map emb
          rw [List.map_append, List.map_drop]; rfl
        rw [← e]
        rfl
    · rintro H₁ ⟨ns, rfl⟩
      generalize hT : toldTys rows sg = ts at *
      have hzt : ts.length ≤ 1003 := by
        rw [← hT]
        cases sg with
        | none => exact Nat.le_trans hz (by omega)
        | some q =>
          show ([q.2.2.2, q.2.1, q.2.2.1] ++ rows.drop 3).length ≤ 1003
          rw [List.length_append, List.length_drop]
          show 3 + _ ≤ _
          omega
      have hu' : ∀ fr : HL, (ua, MO.dct u) ∈ (fr ++ pre) ++ post := fun fr => by
        rw [List.append_assoc]; exact List.mem_append_right _ hu
      fin_run
      refine e_comp (R'.handled) (by with_unfolding_all rfl) (by decide +kernel) (by kernel_rfl) (by decide +kernel) (by kernel_rfl) ?_
      fin_run
      refine ⟨ts.map emb, rfl, rfl, by rw [List.length_map]; omega, fun done acc H' => acc = (numL u n (ts.take done.length)).1.map emb ∧ H' = [(L, .ns (("told", .lst (ts.map emb)) :: ns)), (L + 1, .cell (some (.obj 155 dx)))] ++ (pre ++ (dx, nst ua (numL u n (ts.take done.length)).2) :: post), ⟨rfl, rfl⟩, ?_, ?_⟩
      · rintro C it D done item rest acc H' hl ⟨rfl, rfl⟩
        obtain ⟨x, hx, rfl, ht⟩ := split_map hl
        refine e_meth ?_
        fin_run
        refine metK (l := nsl ua _) (.tail _ (.tail _ (.tail _ mem_at))) rfl (m_type_of _) ?_
        fin_run
        refine AF.ac (type_of_ok (pre := [(C, _), (it, _), (D, _), (L, _), (L + 1, _)] ++ pre) (hd x hx).1 (R'.mono (by omega)) (hu' _) (hd x hx).2 ?_)
        refine ⟨_, rfl, ?_⟩
        show _ ∧ _
        rw [List.length_append, List.length_singleton, ht, numL_snoc, List.map_append]
        exact ⟨rfl, rfl⟩
      · rintro acc H' ⟨rfl, rfl⟩ hacc
        have e : ts.take (ts.map emb).length = ts := by rw [List.length_map, List.take_length]
        rw [e]
        exact Back.frame (fr := [_, _]) kk
end
section
set_option linter.all false
noncomputable def numSs (u : List (Str × AV)) : Int → List Stm → List Stm × Int
  | n, [] => ([], n)
  | n, t :: ts => ((numS u n t).1 :: (numSs u (numS u n t).2 ts).1, (numSs u (numS u n t).2 ts).2)
theorem numSs_snoc {u : List (Str × AV)} : ∀ {n : Int} {ts : List Stm} {t : Stm}, numSs u n (ts ++ [t]) = ((numSs u n ts).1 ++ [(numS u (numSs u n ts).2 t).1], (numS u (numSs u n ts).2 t).2)
  | n, [], t => rfl
  | n, t' :: ts, t => by
    show (_ :: (numSs u (numS u n t').2 (ts ++ [t])).1, (numSs u (numS u n t').2 (ts ++ [t])).2) = _
    rw [numSs_snoc]; rfl
theorem numSs_length {u : List (Str × AV)} : ∀ {n : Int} {ts : List Stm}, (numSs u n ts).1.length = ts.length
  | _, [] => rfl
  | n, t :: ts => by show (_ :: (numSs u (numS u n t).2 ts).1).length = _; rw [List.length_cons, numSs_length]; rfl
noncomputable abbrev Bl := List Stm × Tm
noncomputable def embB (b : Bl) : AV := .lst [.lst (b.1.map embS), embT b.2]
noncomputable def numB (u : List (Str × AV)) (n : Int) (b : Bl) : Bl × Int := (((numSs u n b.1).1, (numT u (numSs u n b.1).2 b.2).1), (numT u (numSs u n b.1).2 b.2).2)
noncomputable def numBs (u : List (Str × AV)) : Int → List Bl → List Bl × Int
  | n, [] => ([], n)
  | n, t :: ts => ((numB u n t).1 :: (numBs u (numB u n t).2 ts).1, (numBs u (numB u n t).2 ts).2)
theorem numBs_snoc {u : List (Str × AV)} : ∀ {n : Int} {ts : List Bl} {t : Bl}, numBs u n (ts ++ [t]) = ((numBs u n ts).1 ++ [(numB u (numBs u n ts).2 t).1], (numB u (numBs u n ts).2 t).2)
  | n, [], t => rfl
  | n, t' :: ts, t => by
    show (_ :: (numBs u (numB u n t').2 (ts ++ [t])).1, (numBs u (numB u n t').2 (ts ++ [t])).2) = _
    rw [numBs_snoc]; rfl
theorem numBs_length {u : List (Str × AV)} : ∀ {n : Int} {ts : List Bl}, (numBs u n ts).1.length = ts.length
  | _, [] => rfl
  | n, t :: ts => by show (_ :: (numBs u (numB u n t).2 ts).1).length = _; rw [List.length_cons, numBs_length]; rfl
noncomputable def goodB (u : List (Str × AV)) (k : Nat) (b : Bl) : Prop := (∀ s ∈ b.1, goodS u k s) ∧ b.1.length ≤ 1000 ∧ goodTm u k b.2
/-- the names told -/
noncomputable abbrev fullU : List (Str × AV) := [("'static", .int 0), ("'a", .int 1), ("'b", .int 2), ("'_1", .int 3)]
noncomputable def uOf : SigO → List (Str × AV)
  | none => fullU.take 1
  | some _ => fullU
noncomputable def nOf : SigO → Int
  | none => 1
  | some _ => 4
noncomputable def sigsL : SigO → List (Str × AV)
  | none => []
  | some (sx, _) => [("f", .obj 226 sx)]
noncomputable abbrev worldL (a1 a2 a3 a4 a5 a6 : Addr) : List (Str × AV) := [("modules", .none), ("adts", .adr a1), ("variants", .adr a2), ("sigs", .adr a3), ("traits", .adr a4), ("impls", .lst []), ("consts", .adr a5), ("bodies", .adr a6)]
/-- what is in the ledger of the arguments of renumbered -/
structure ArgsIn (H : HL) (bx wx a1 a2 a3 a4 a5 a6 s2 : Addr) (sm : MO) (ac : Int) (rows : List Ty) (bl : AV) (sg : SigO) : Prop where
  b : (bx, MO.dct (bodyL ac rows bl (.adr s2))) ∈ H
  w : (wx, MO.dct (worldL a1 a2 a3 a4 a5 a6)) ∈ H
  s : (a3, MO.dct (sigsL sg)) ∈ H
  p : (s2, sm) ∈ H
  g : sigIn H sg
theorem s_exprI {c : Cx} {A : Around} {env : Env} {H : HL} {e : Expr} {pos : Pos} {Kn : HL → Prop} {Kr : AV → HL → Prop} (h : AE c A env e H fun d H' => (∃ i, d = .int i) ∧ Kn H') (hi : interactive env = false) (hs : swapsWith e none pos.line env = pure false := by with_unfolding_all rfl) :
    AS c A env (.Expr e pos) H Kn Kr := by
  intro s E Q I P _
  refine wpAny_Expr (h s E _ I fun s' v d H' I' S' hv k => ?_) hi hs
  obtain ⟨⟨i, rfl⟩, k⟩ := k
  obtain ⟨t, rfl⟩ := hv
  exact P s' H' I' S' k
noncomputable def namesL : List AV := [.str "'a", .str "'b", .str "'_1"]
theorem told_steps {c : Cx} {A : Around} {dx ua : Addr} {done rest : List AV} {item : AV} {pre post : HL} {K : AV → HL → Prop} (R : Room 2 A) (h : namesL = done ++ item :: rest)
    (k : ∀ i, K (.int i) (pre ++ (dx, nst ua (1 + ((done ++ [item]).length : Nat))) :: (ua, .dct (fullU.take (1 + (done ++ [item]).length))) :: post)) : AF c A 133 [.obj 155 dx, item] (pre ++ (dx, nst ua (1 + done.length)) :: (ua, .dct (fullU.take (1 + done.length))) :: post) K := by
  match done, h with
  | [], h => cases h; exact told_new (pre := pre) (u := fullU.take 1) (n := 1) R (by with_unfolding_all rfl) (by decide) (by with_unfolding_all rfl) (k 1)
  | [_], h => cases h; exact told_new (pre := pre) (u := fullU.take 2) (n := 2) R (by with_unfolding_all rfl) (by decide) (by with_unfolding_all rfl) (k 2)
  | [_, _], h => cases h; exact told_new (pre := pre) (u := fullU.take 3) (n := 3) R (by with_unfolding_all rfl) (by decide) (by with_unfolding_all rfl) (k 3)
  | [_, _, _], h => cases h
  | _ :: _ :: _ :: _ :: _, h => cases h
theorem ac_dictS {c : Cx} {A : Around} {a : Addr} {sm : MO} {H : HL} {K : AV → HL → Prop} (hsm : sm = .spt ∨ sm = .dct []) (hm : (a, sm) ∈ H) (k : ∀ b, K (.adr b) ((b, sm) :: H)) : AC c A (.typ "dict") [.adr a] H K := by
  rcases hsm with rfl | rfl
  · exact ac_dictP hm k
  · exact ac_dict hm (by decide) k
theorem q_nOf {sg : SigO} : (uOf sg).length ≤ 900 := by cases sg <;> exact Nat.le_of_ble_eq_true rfl
theorem range_at {n : Nat} {done rest : List AV} {item : AV} (h : (List.range n).map (fun (k : Nat) => AV.int (0 + (k : Int))) = done ++ item :: rest) : item = .int done.length ∧ done.length < n := by
  have hl : done.length < n := by
    have := congrArg List.length h
    simp at this; omega
  refine ⟨?_, hl⟩
  have := congrArg (·[done.length]?) h
  simp only [List.getElem?_map, List.getElem?_append_right (Nat.le_refl _), Nat.sub_self, List.getElem?_cons_zero, List.getElem?_range hl, Option.map_some] at this
  rw [← Option.some.inj this]
  simp
open PySem.F in
theorem ren_pre {c : Cx} {A : Around} {bx wx a1 a2 a3 a4 a5 a6 s2 : Addr} {sm : MO} {ac : Int} {rows : List Ty} {bls : List Bl} {sg : SigO} {k : Nat} {H : HL} {K : AV → HL → Prop}
    (I : ArgsIn H bx wx a1 a2 a3 a4 a5 a6 s2 sm ac rows (.lst (bls.map embB)) sg) (R : Room (k + 20) A) (hd : ∀ t ∈ toldTys rows sg, dep t < k ∧ goodT (uOf sg) t) (hz : rows.length ≤ 1000) (hac : sg ≠ none → ac = 2 ∧ 3 ≤ rows.length)
    (hb : ∀ b ∈ bls, goodB (uOf sg) k b) (hzb : bls.length ≤ 1000) (hsm : sm = .spt ∨ sm = .dct [])
    (kk : ∀ nb u2 s3, K (.tup [.obj 82 nb, .adr u2]) ((u2, .dct (uOf sg)) :: (nb, .dct (bodyL ac (numL (uOf sg) (nOf sg) (toldTys rows sg)).1 (.lst ((numBs (uOf sg) (numL (uOf sg) (nOf sg) (toldTys rows sg)).2 bls).1.map embB)) (.adr s3))) :: (s3, sm) :: H)) :
    AC c A (.adr 209) [.obj 82 bx, .obj 255 wx] H K := by
  refine ac_fn (c := c) (f := 209) [Str.ofString "body", Str.ofString "world"] (k + 19) (fun L => [(L, .ns [("world", .obj 255 wx)]), (L + 3, .cell none), (L + 2, .cell none), (L + 1, .cell (some (.obj 82 bx)))]) R ?hb ?hk rfl rfl ?hfr (by kernel_rfl) (by kernel_rfl) (by kernel_rfl) ?hnd (by kernel_rfl) (by kernel_rfl) (by kernel_rfl) ?h
  case hb => exact len2 fun _ _ => by kernel_rfl
  case hnd => intro L; exact List.nodup_cons.mpr ⟨by simp; decide, List.nodup_cons.mpr ⟨by simp; decide, List.nodup_cons.mpr ⟨List.not_mem_nil, List.nodup_nil⟩⟩⟩
  case hfr => intro L; kernel_rfl
  case hk =>
    intro n L hn; simp only [List.mem_cons, List.not_mem_nil, or_false] at hn
    rcases hn with rfl | rfl
    · exact .inr ⟨by kernel_rfl, by kernel_rfl⟩
    · exact .inl (by kernel_rfl)
  intro L A' R'
  have lift : ∀ {x : Addr × MO} {fr : HL}, x ∈ H → x ∈ fr ++ H := fun h => List.mem_append_right _ h
  let fr : List (Str × AV) → Option AV → Addr → HL := fun ns tv dx => [(L, .ns ns), (L + 3, .cell tv), (L + 2, .cell (some (.obj 155 dx))), (L + 1, .cell (some (.obj 82 bx)))]
  refine s_cut (fun H₁ => ∃ dx ua, H₁ = (dx, nst ua 1) :: (ua, .dct (fullU.take 1)) :: (fr [(Str.ofString "sig", sigV sg), (Str.ofString "world", .obj 255 wx)] none dx ++ H)) ?_ ?_
  · refine s_pair R'.handled ?_
    fin_run
    refine ac_class (k := 1) (R'.mono (by omega)) (c_Numbers _) (c_Numbers' _) (c_Numbers'' _) fun dx A'' R'' => ?_
    refine numbersInit_ok R'' fun ua => ⟨rfl, ?_⟩
    fin_run
    refine e_methB slot_dict_get type_dict_get plainAttrs_dict ?_
    refine e_attr ?_
    fin_run
    refine attK2 (.tail _ (.tail _ (lift I.w))) rfl rfl (a_sigs _) ?_
    refine ⟨_, _, rfl, .tail _ (.tail _ (lift I.s)), .inr ⟨rfl, _, rfl⟩, ?_⟩
    refine l_cons (e_attr ?_)
    fin_run
    refine attK2 (.tail _ (.tail _ (lift I.b))) rfl rfl (a_name _) ?_
    fin_run
    refine ac_get (.tail _ (.tail _ (lift I.s))) ?_
    have e : ((sigsL sg).lookup (Str.ofString "f")).getD .none = sigV sg := by
      cases sg with
      | none => rfl
      | some q => with_unfolding_all rfl
    rw [e]
    fin_run
    refine ⟨_, _, rfl, ?_⟩
    refine st_cell (d₀ := none) (pre := [_, _, _, _]) (by kernel_rfl) (by kernel_rfl) (by kernel_rfl) ?_
    refine st_local (pre := [_, _]) (by kernel_rfl) (by kernel_rfl) ?_
    exact ⟨dx, ua, rfl⟩
  · rintro H₁ ⟨dx, ua, rfl⟩
    refine s_cut (fun H₁ => ∃ ns : List (Str × AV), H₁ = (dx, nst ua (nOf sg)) :: (ua, .dct (uOf sg)) :: (fr ns none dx ++ H) ∧ ns.lookup (Str.ofString "sig") = some (sigV sg)) ?_ ?_
    · cases sg with
      | none =>
        fin_run
        refine oc_isnot (d := .none) (b := true) rfl ?_
        fin_run
        exact ⟨_, rfl, rfl⟩
      | some q =>
        obtain ⟨sx, a, b, o⟩ := q
        fin_run
        refine oc_isnot (d := .obj 226 sx) (b := false) rfl ?_
        fin_run
        refine s_for R'.handled (e_attr ?_)
        fin_run
        refine attK2 (.tail _ (.tail _ (lift I.g))) rfl rfl (a_regions _) ?_
        refine ⟨namesL, rfl, rfl, fun done H' => ∃ ns : List (Str × AV), H' = (dx, nst ua (1 + done.length)) :: (ua, .dct (fullU.take (1 + done.length))) :: (fr ns none dx ++ H) ∧ ns.lookup (Str.ofString "sig") = some (.obj 226 sx), ⟨_, rfl, rfl⟩, ?_, ?_⟩
        · rintro it done item rest H' hl ⟨ns, rfl, hns⟩
          refine aa_name ?_
          refine st_local (pre := [_, _, _]) (by kernel_rfl) (by kernel_rfl) ?_
          refine s_cons (s_exprI (e_meth ?_) (by kernel_rfl))
          fin_run
          refine metK (l := nsl ua _) (.tail _ (.head _)) rfl (m_told _) ?_
          fin_run
          refine AF.ac (told_steps (pre := [(it, _)]) (R'.mono (by omega)) hl fun i => ?_)
          refine ⟨⟨i, rfl⟩, ?_⟩
          fin_run
          exact ⟨_, rfl, _, rfl, hns⟩
        · rintro H' ⟨ns, rfl, hns⟩
          fin_run
          exact ⟨ns, rfl, hns⟩
    · rintro H₁ ⟨ns, rfl, hns⟩
      generalize hu : uOf sg = u at *
      generalize hn0 : nOf sg = n0 at *
      generalize hts : toldTys rows sg = ts at *
      have hzt : ts.length = rows.length := by
        rw [← hts]
        cases sg with
        | none => rfl
        | some q =>
          have := (hac (by simp)).2
          show ([q.2.2.2, q.2.1, q.2.2.1] ++ rows.drop 3).length = _
          rw [List.length_append, List.length_drop]
          show 3 + _ = _
          omega
      have hT : (numL u n0 ts).1.length = rows.length := by rw [numL_length, hzt]
      refine s_cut (fun H₁ => ∃ ns : List (Str × AV), H₁ = (dx, nst ua (numL u n0 ts).2) :: (ua, .dct u) :: (fr ns (some (.lst ((numL u n0 ts).1.map emb))) dx ++ H)) ?_ ?_
      · refine s_assign ?_
        fin_run
        refine e_local (by kernel_rfl) (by kernel_rfl) (by with_unfolding_all rfl) (.tail _ (.tail _ (.head _))) hns ?_
        fin_run
        refine local_types_ok (pre := []) (k := k) (u := u) (by rw [hts]; exact hd) hz (fun h => (hac h).1) (R'.mono (by omega)) (.head _) (.tail _ (lift I.b)) ?_ ?_
        · cases sg with
          | none => trivial
          | some q => exact .tail _ (lift I.g)
        · rw [hts]
          refine st_cell (d₀ := none) (pre := [_, _, _]) (by kernel_rfl) (by kernel_rfl) (by kernel_rfl) ?_
          exact ⟨ns, rfl⟩
      · rintro H₁ ⟨ns, rfl⟩
        generalize numL u n0 ts = Tn at *
        obtain ⟨T, n1⟩ := Tn
        simp only at kk hT ⊢
        refine s_cut (fun H₁ => ∃ ns : List (Str × AV), H₁ = (dx, nst ua n1) :: (ua, .dct u) :: (fr ((Str.ofString "rows", .lst (T.map rowV)) :: ns) (some (.lst (T.map emb))) dx ++ H)) ?_ ?_
        · refine s_comp (R'.handled) (by with_unfolding_all rfl) (by decide +kernel) (by kernel_rfl) (by decide +kernel) (by kernel_rfl) ?_ (by with_unfolding_all rfl)
          fin_run
          refine ac_len_lst (by rw [List.length_map]; omega) ?_
          fin_run
          refine ac_range1 ?_
          refine ⟨(List.range T.length).map fun (k : Nat) => .int (0 + (k : Int)), by simp [itemsOf], by simp [smallR]; omega, by simp; omega, fun done acc H' => acc = (T.take done.length).map rowV ∧ H' = (dx, nst ua n1) :: (ua, .dct u) :: (fr ns (some (.lst (T.map emb))) dx ++ H), ⟨rfl, rfl⟩, ?_, ?_⟩
          · rintro C it D done item rest acc H' hl ⟨rfl, rfl⟩
            obtain ⟨rfl, hlt⟩ := range_at hl
            refine e_binop ?_
            fin_run
            refine os_lst (d := emb T[done.length]) (by omega) (by simp [hlt]) (by rw [List.length_map]; omega) ?_
            fin_run
            refine e_attr ?_
            fin_run
            refine attK2 (.tail _ (.tail _ (.tail _ (.tail _ (.tail _ (lift I.b)))))) rfl rfl (a_locals _) ?_
            fin_run
            refine os_lst (d := rowV (rows[done.length]'(hT ▸ hlt))) (by omega) (by simp [hT ▸ hlt]) (by rw [List.length_map]; omega) ?_
            fin_run
            refine ⟨1, rfl, .inl ⟨_, rfl, by decide, by simp, by simp, ?_⟩⟩
            fin_run
            refine ac_tuple_tup ?_
            refine ob_addt (by simp) (by simp) (by simp) ?_
            refine ⟨_, rfl, ?_, rfl⟩
            rw [List.length_append, List.length_singleton, List.take_add_one, List.getElem?_eq_getElem hlt, List.map_append]
            rfl
          · rintro acc H' C m0 ⟨rfl, rfl⟩ hlen
            refine st_local (pre := [_, _, _]) (by kernel_rfl) (by kernel_rfl) ?_
            refine ⟨_, rfl, ns, ?_⟩
            have e : T.take ((List.range T.length).map fun (k : Nat) => AV.int (0 + (k : Int))).length = T := by simp
            rw [e]; rfl
        · rintro H₁ ⟨ns, rfl⟩
          refine s_cons (s_assign (e_listM ?_))
          fin_run
          intro ba
          refine st_local (pre := [_, _, _]) (by kernel_rfl) (by kernel_rfl) ?_
          refine s_cut (fun H₁ => ∃ ns : List (Str × AV), H₁ = (ba, .lst ((numBs u n1 bls).1.map embB)) :: (dx, nst ua (numBs u n1 bls).2) :: (ua, .dct u) :: (fr ns (some (.lst (T.map emb))) dx ++ H) ∧ ns.lookup (Str.ofString "blocks") = some (.adr ba) ∧ ns.lookup (Str.ofString "rows") = some (.lst (T.map rowV))) ?_ ?_
          · refine s_forP R'.handled (e_attr ?_)
            fin_run
            refine attK2 (l := bodyL ac rows (.lst (bls.map embB)) (.adr s2)) (e := .lst (bls.map embB)) (.tail _ (.tail _ (.tail _ (lift (fr := [_, _, _, _]) I.b)))) rfl rfl (a_blocks _) ?_
            refine ⟨bls.map embB, rfl, rfl, fun done H₁ => ∃ ns : List (Str × AV), H₁ = (ba, .lst ((numBs u n1 (bls.take done.length)).1.map embB)) :: (dx, nst ua (numBs u n1 (bls.take done.length)).2) :: (ua, .dct u) :: (fr ns (some (.lst (T.map emb))) dx ++ H) ∧ ns.lookup (Str.ofString "blocks") = some (.adr ba) ∧ ns.lookup (Str.ofString "rows") = some (.lst (T.map rowV)), ⟨_, rfl, rfl, rfl⟩, ?_, ?_⟩
            · rintro it done item rest H' hl ⟨ns, rfl, h1, h2⟩
              obtain ⟨b, hbm, rfl, ht⟩ := split_map hl
              refine aa_two R'.handled (.inr rfl) ?_
              refine st_local (pre := [_, _, _, _]) (by kernel_rfl) (by kernel_rfl) ?_
              refine st_local (pre := [_, _, _, _]) (by kernel_rfl) (by kernel_rfl) ?_
              generalize hn2 : (numBs u n1 (bls.take done.length)).2 = n2
              have hgb := hb b hbm
              refine s_cut (fun H₁ => ∃ ns' : List (Str × AV), H₁ = (it, .itr rest) :: (ba, .lst ((numBs u n1 (bls.take done.length)).1.map embB)) :: (dx, nst ua (numSs u n2 b.1).2) :: (ua, .dct u) :: (fr ((Str.ofString "fresh", .lst ((numSs u n2 b.1).1.map embS)) :: (Str.ofString "terminator", embT b.2) :: ns') (some (.lst (T.map emb))) dx ++ H) ∧ ns'.lookup (Str.ofString "blocks") = some (.adr ba) ∧ ns'.lookup (Str.ofString "rows") = some (.lst (T.map rowV))) ?_ ?_
              · refine s_comp (R'.handled) (by with_unfolding_all rfl) (by decide +kernel) (by kernel_rfl) (by decide +kernel) (by kernel_rfl) ?_ (by with_unfolding_all rfl)
                fin_run
                refine ⟨b.1.map embS, rfl, rfl, by rw [List.length_map]; have := hgb.2.1; omega, fun done' acc H' => acc = (numSs u n2 (b.1.take done'.length)).1.map embS ∧ H' = (it, .itr rest) :: (ba, .lst ((numBs u n1 (bls.take done.length)).1.map embB)) :: (dx, nst ua (numSs u n2 (b.1.take done'.length)).2) :: (ua, .dct u) :: (fr ((Str.ofString "terminator", embT b.2) :: (Str.ofString "statements", .lst (b.1.map embS)) :: ns) (some (.lst (T.map emb))) dx ++ H), ⟨rfl, rfl⟩, ?_, ?_⟩
                · rintro C it2 D done' item' rest' acc H' hl' ⟨rfl, rfl⟩
                  obtain ⟨x, hx, rfl, ht'⟩ := split_map hl'
                  fin_run
                  refine statement_ok (pre := [(C, _), (it2, _), (D, _), (it, _), (ba, _)]) (k := k) (R'.mono (by omega)) (List.mem_append_right _ (.head _)) (hgb.1 x hx) ?_
                  refine ⟨_, rfl, ?_⟩
                  show _ ∧ _
                  rw [List.length_append, List.length_singleton, ht', numSs_snoc, List.map_append]
                  exact ⟨rfl, rfl⟩
                · rintro acc H' C m0 ⟨rfl, rfl⟩ hlen
                  refine st_local (pre := [_, _, _, _, _]) (by kernel_rfl) (by kernel_rfl) ?_
                  have e : b.1.take (b.1.map embS).length = b.1 := by rw [List.length_map, List.take_length]
                  rw [e]
                  exact ⟨_, rfl, _, rfl, h1, h2⟩
              · rintro H₁ ⟨ns', rfl, h1, h2⟩
                refine s_cons (s_expr (e_methB PySem.F.slot_list_append PySem.F.type_list_append PySem.F.plainAttrs_list ?_) (by kernel_rfl))
                refine e_local (by kernel_rfl) (by kernel_rfl) (by with_unfolding_all rfl) (.tail _ (.tail _ (.tail _ (.tail _ (.head _))))) h1 ?_
                refine ⟨ba, _, rfl, .tail _ (.head _), .inl ⟨rfl, _, rfl⟩, ?_⟩
                refine l_cons (e_list ?_)
                fin_run
                refine terminator_ok (pre := [(it, _), (ba, _)]) (k := k) (R'.mono (by omega)) (List.mem_append_right _ (.head _)) hgb.2.2 ?_
                fin_run
                refine ac_append (pre := [(it, _)]) (by rw [List.length_map, numBs_length, List.length_take]; omega) ?_
                refine ⟨rfl, ?_⟩
                fin_run
                refine ⟨_, rfl, (Str.ofString "fresh", .lst ((numSs u n2 b.1).1.map embS)) :: (Str.ofString "terminator", embT b.2) :: ns', ?_, h1, h2⟩
                rw [List.length_append, List.length_singleton, ht, numBs_snoc, hn2, List.map_append]
                rfl
            · rintro H' ⟨ns, rfl, h1, h2⟩
              have e : bls.take (bls.map embB).length = bls := by rw [List.length_map, List.take_length]
              rw [e]
              exact ⟨ns, rfl, h1, h2⟩
          · rintro H₁ ⟨ns, rfl, h1, h2⟩
            generalize hB : (numBs u n1 bls).1 = B at *
            generalize (numBs u n1 bls).2 = n3 at *
            have hzB : B.length ≤ 1000 := by rw [← hB, numBs_length]; exact hzb
            refine TS.perm (H₁ := (ba, .lst (B.map embB)) :: (L, .ns ns) :: (dx, nst ua n3) :: (ua, .dct u) :: [(L + 3, .cell (some (.lst (T.map emb)))), (L + 2, .cell (some (.obj 155 dx))), (L + 1, .cell (some (.obj 82 bx)))] ++ H) (.cons _ ((List.Perm.cons _ (.swap _ _ _)).trans (.swap _ _ _))) ?_
            refine TS.names (pre := [_]) (l' := (Str.ofString "blocks", .adr ba) :: ns) ?_ ?_
            · refine TS.freeze ?_
              fin_run
              let F : HL := [(L, .ns ((Str.ofString "blocks", .lst (B.map embB)) :: ns)), (dx, nst ua n3), (ua, .dct u), (L + 3, .cell (some (.lst (T.map emb)))), (L + 2, .cell (some (.obj 155 dx))), (L + 1, .cell (some (.obj 82 bx)))]
              refine e_attr ?_
              fin_run
              refine attK2 (l := bodyL ac rows (.lst (bls.map embB)) (.adr s2)) (e := .str "f") (lift (fr := F) I.b) rfl rfl (a_name _) ?_
              fin_run
              refine e_attr ?_
              fin_run
              refine attK2 (l := bodyL ac rows (.lst (bls.map embB)) (.adr s2)) (e := .int ac) (lift (fr := F) I.b) rfl rfl (a_argc _) ?_
              fin_run
              refine e_local (by kernel_rfl) (by kernel_rfl) (by with_unfolding_all rfl) (.head _) h2 ?_
              fin_run
              refine e_attr ?_
              fin_run
              refine attK2 (l := bodyL ac rows (.lst (bls.map embB)) (.adr s2)) (e := .adr s2) (lift (fr := F) I.b) rfl rfl (a_spots _) ?_
              fin_run
              refine ac_dictS hsm (lift (fr := F) I.p) fun s3 => ?_
              fin_run
              refine ac_class (k := 1) (R'.mono (by omega)) (c_Body _) (c_Body' _) (c_Body'' _) fun nb A'' R'' => ?_
              refine bodyInit_ok R'' (by rw [List.length_map]; omega) rfl rfl ⟨rfl, ?_⟩
              fin_run
              refine e_attr ?_
              fin_run
              refine attK2 (l := nsl ua n3) (e := .adr ua) (.tail _ (.tail _ (.tail _ (.head _)))) rfl rfl (a_universal _) ?_
              fin_run
              refine ac_dict (.tail _ (.tail _ (.tail _ (.tail _ (.head _))))) (by rw [← hu]; exact Nat.le_trans q_nOf (by omega)) fun u2 => ?_
              fin_run
              refine ⟨F, _, ?_, kk nb u2 s3⟩
              exact List.perm_append_comm_assoc [_, _, _] F H
            · intro x
              rw [List.lookup_cons]
              cases hx : (x == Str.ofString "blocks") with
              | true => rw [eq_of_beq hx, h1]
              | false => rfl
end
section
set_option linter.all false
theorem e_and1 {c : Cx} {A : Around} {env : Env} {e : Expr} {pos : Pos} {H : HL} {K : AV → HL → Prop} (h : AE c A env e H K) : AE c A env (.BoolOp .And [e] pos) H K := fun s E Q I P => PyProof.Rows.BoolOp_one (h s E Q I P)
theorem e_and2 {c : Cx} {A : Around} {env : Env} {e₁ e₂ : Expr} {r : List Expr} {pos : Pos} {H : HL} {K : AV → HL → Prop} (h : AE c A env e₁ H fun d H₁ => d = .bool true ∧ AE c A env (.BoolOp .And (e₂ :: r) pos) H₁ K) : AE c A env (.BoolOp .And (e₁ :: e₂ :: r) pos) H K := by
  intro s E Q I P
  refine PyProof.Rows.BoolOp_and (h s E _ I fun s₁ v d H₁ I₁ S₁ hv k => ?_)
  obtain ⟨rfl, k⟩ := k
  cases hv
  refine wpAny_truthy_bool ?_
  exact (if_pos rfl).mpr (k s₁ E Q I₁ (P.behind S₁))
open PySem.F in
theorem fixed_ok {c : Cx} {A : Around} {H : HL} {K : AV → HL → Prop} (R : Room 60 A) (kk : K (.bool true) H) : AC c A (.adr 330) [] H K := by
  refine ac_fn (c := c) (f := 330) [] 59 (fun L => [(L, .ns [])]) R ?hb ?hk rfl rfl ?hfr (by kernel_rfl) (by kernel_rfl) (by kernel_rfl) ?hnd (by kernel_rfl) (by kernel_rfl) (by kernel_rfl) ?h
  case hb => exact len0 (by kernel_rfl)
  case hnd => intro L; exact List.nodup_nil
  case hfr => intro L; kernel_rfl
  case hk => intro n L hn; cases hn
  intro L A' R'
  refine s_cons ?_
  refine s_assign ?_
  refine e_list ?_
  fin_run
  refine s_pair R'.handled ?_
  fin_run
  refine e_list ?_
  refine l_cons ?_
  refine e_list ?_
  refine l_cons ?_
  refine e_list ?_
  fin_run
  refine e_dict0 fun s2 => ?_
  fin_run
  refine ac_class (k := 1) (R'.mono (by omega)) (c_Body _) (c_Body' _) (c_Body'' _) fun bx A'' R'' => ?_
  refine bodyInit_ok R'' (by simp) rfl rfl ⟨rfl, ?_⟩
  fin_run
  refine ac_class (k := 1) (R'.mono (by omega)) (c_World _) (c_World' _) (c_World'' _) fun wx A'' R'' => ?_
  refine worldInit_ok R'' fun a1 a2 a3 a4 a5 a6 => ⟨rfl, ?_⟩
  fin_run
  refine ren_pre (bx := bx) (wx := wx) (a1 := a1) (a2 := a2) (a3 := a3) (a4 := a4) (a5 := a5) (a6 := a6) (s2 := s2) (sm := .dct []) (ac := 0) (rows := [.ref .none false .int, .int])
    (bls := [([.assign (.ref .none "shared" (.tup [.int 1, .tup []]))], .ret)]) (sg := none) (k := 3) ⟨?_, ?_, ?_, ?_, trivial⟩ (R'.mono (by omega)) ?_ (by simp) (by simp) ?_ (by simp) (.inr rfl) fun nb u2 s3 => ?_
  · exact .tail _ (.tail _ (.head _))
  · exact .head _
  · exact .tail _ (.head _)
  · exact .tail _ (.tail _ (.tail _ (.head _)))
  · intro t ht
    rcases List.mem_cons.mp ht with rfl | ht
    · exact ⟨by decide, .inl rfl, trivial⟩
    · cases List.mem_singleton.mp ht
      exact ⟨by decide, trivial⟩
  · intro b hb
    cases List.mem_singleton.mp hb
    refine ⟨fun s hs => ?_, by decide, trivial⟩
    cases List.mem_singleton.mp hs
    exact .inl rfl
  rw [show numL (uOf none) (nOf none) (toldTys [Ty.ref .none false .int, .int] none) = ([.ref (.int 1) false .int, .int], 2) from by with_unfolding_all rfl]
  rw [show numBs (uOf none) 2 [([Stm.assign (.ref .none "shared" (.tup [.int 1, .tup []]))], Tm.ret)] = ([([Stm.assign (.ref (.int 2) "shared" (.tup [.int 1, .tup []]))], Tm.ret)], 3) from by with_unfolding_all rfl]
  refine ⟨_, _, rfl, ?_⟩
  refine st_local (pre := [_, _, _, _, _, _, _]) (by kernel_rfl) (by kernel_rfl) ?_
  refine st_local (pre := [_, _, _, _, _, _, _]) (by kernel_rfl) (by kernel_rfl) ?_
  fin_run
  refine e_list ?_
  refine l_cons ?_
  refine e_attr ?_
  fin_run
  refine attK2 (.tail _ (.head _)) rfl rfl (a_locals _) ?_
  refine l_cons ?_
  refine e_attr ?_
  fin_run
  refine attK2 (.tail _ (.head _)) rfl rfl (a_blocks _) ?_
  fin_run
  refine regs_ok 12 _ _ _ _ (by decide +kernel) (by omega) (by decide +kernel) (R'.mono (by omega)) ?_
  refine st_local (pre := [_, _, _, _, _, _, _]) (by kernel_rfl) (by kernel_rfl) ?_
  rw [show regsV 12 _ = [.int 1, .int 2] from by with_unfolding_all rfl]
  fin_run
  refine e_and2 ?_
  fin_run
  refine e_dict1 fun ua => ?_
  refine ap_cons ?_
  refine e_str ?_
  refine ⟨_, rfl, ?_⟩
  refine e_int ?_
  refine ap_nil ?_
  refine ⟨by simp, _, rfl, ?_⟩
  refine oc_deq (l := [("'static", .int 0)]) (.tail _ (.head _)) (.head _) (fun p hp => ?_) (by have := R'.units; omega) ⟨rfl, ?_⟩
  · cases List.mem_singleton.mp hp; exact ⟨_, rfl⟩
  refine e_and2 ?_
  fin_run
  refine oc_nonein (l := [1, 2]) (R'.mono (by omega)) ⟨rfl, ?_⟩
  refine e_and1 ?_
  fin_run
  refine ac_sorted (l := [1, 2]) (by decide) (by simp) fun l' hp hw => ?_
  have e : l' = [1, 2] := hp.eq_of_pairwise (fun a b _ _ h1 h2 => Int.le_antisymm h1 h2) hw (by simp)
  subst e
  refine e_list ?_
  fin_run
  refine oc_self (n := 2) (by decide +kernel) (by omega) (R'.mono (by omega)) ?_
  exact ⟨[(ua, _), (L, _), (u2, _), (nb, _), (s3, _), (wx, _), (a3, _), (bx, _), (s2, _)], _, ((List.perm_middle (l₁ := [(u2, _), (nb, _), (s3, _), (wx, _), (a3, _), (bx, _), (s2, _)])).cons _), kk⟩
end
section
set_option linter.all false
noncomputable def regsT : Ty → List AV
  | .int => [] | .ref r _ t => r :: regsT t | .box t => regsT t | .arr t => regsT t | .tup a b => regsT a ++ regsT b | .adt r s t => r :: s :: regsT t
noncomputable def bareT : Ty → Ty
  | .int => .int | .ref _ m t => .ref .none m (bareT t) | .box t => .box (bareT t) | .arr t => .arr (bareT t) | .tup a b => .tup (bareT a) (bareT b) | .adt _ _ t => .adt .none .none (bareT t)
/-- a region: none, a number, a name -/
noncomputable def wfA : AV → Bool
  | .none | .int _ => true
  | .str x => PyData.strOk x && !isRef (.str x) && !isAdt (.str x)
  | _ => false
noncomputable def noneT (t : Ty) : Prop := ∀ r ∈ regsT t, r = AV.none
theorem wfA_wf {r : AV} (h : wfA r = true) (n : Nat) : wfV n r = true := by cases r <;> first | (cases n <;> rfl) | (simp only [wfA, Bool.and_eq_true] at h; cases n <;> exact h.1.1) | (simp [wfA] at h)
theorem isRef_emb (t : Ty) : isRef (emb t) = false := by cases t <;> rfl
theorem isAdt_emb (t : Ty) : isAdt (emb t) = false := by cases t <;> rfl
theorem isS_emb (t : Ty) : isS (emb t) = false := by cases t <;> rfl
theorem nat_of {n k : Nat} (h : k + 1 ≤ n) : ∃ m, n = m + 1 ∧ k ≤ m := ⟨n - 1, by omega, by omega⟩
theorem sR {s : String} (h : ((s : Str) == ("ref" : Str)) = false := by decide +kernel) : isRef (.str s) = false := h
theorem sA {s : String} (h : ((s : Str) == ("adt" : Str)) = false := by decide +kernel) : isAdt (.str s) = false := h
theorem rr : isRef (.str "ref") = true := by decide +kernel
theorem ra : isRef (.str "adt") = false := by decide +kernel
theorem aa : isAdt (.str "adt") = true := by decide +kernel
theorem regsV_str {n : Nat} {x : Str} : regsV n (.str x) = [] := regs_atom rfl
theorem regsV_int {n : Nat} {x : Int} : regsV n (.int x) = [] := regs_atom rfl
theorem regsV_bool {n : Nat} {x : Bool} : regsV n (.bool x) = [] := regs_atom rfl
theorem regsV_none {n : Nat} : regsV n .none = [] := regs_atom rfl
theorem bareV_str {n : Nat} {x : Str} : bareV n (.str x) = .str x := bare_atom rfl
theorem bareV_int {n : Nat} {x : Int} : bareV n (.int x) = .int x := bare_atom rfl
theorem bareV_bool {n : Nat} {x : Bool} : bareV n (.bool x) = .bool x := bare_atom rfl
theorem bareV_none {n : Nat} : bareV n .none = .none := bare_atom rfl
theorem wfV_str {n : Nat} {x : Str} : wfV n (.str x) = PyData.strOk x := by cases n <;> rfl
theorem wfV_int {n : Nat} {x : Int} : wfV n (.int x) = true := by cases n <;> rfl
theorem wfV_bool {n : Nat} {x : Bool} : wfV n (.bool x) = true := by cases n <;> rfl
theorem wfV_none {n : Nat} : wfV n .none = true := by cases n <;> rfl
/-- plain: neither a reference nor a named struct -/
noncomputable def plainH : List AV → Bool
  | h :: x :: _ => !isRef h && !(isAdt h && isS x)
  | [h] => !isRef h && !isAdt h
  | [] => true
theorem regs_pl {n : Nat} {l : List AV} (h : plainH l = true) : regsV (n + 1) (.tup l) = l.flatMap (regsV n) := by
  match l, h with
  | [], _ => rfl
  | [x], _ => rfl
  | x :: y :: r, h =>
    simp only [plainH, Bool.and_eq_true, Bool.not_eq_true'] at h
    refine regs_gen h.1 fun ha h' x' r' e => ?_
    cases e
    have h1 : isAdt x = true := ha
    have := h.2
    rw [h1] at this
    simpa using this
theorem bare_pl {n : Nat} {l : List AV} (h : plainH l = true) : bareV (n + 1) (.tup l) = .tup (l.map (bareV n)) := by
  match l, h with
  | [], _ => rfl
  | [x], _ => rfl
  | x :: y :: r, h =>
    simp only [plainH, Bool.and_eq_true, Bool.not_eq_true'] at h
    refine bare_gen h.1 fun ha h' x' r' e => ?_
    cases e
    have h1 : isAdt x = true := ha
    have := h.2
    rw [h1] at this
    simpa using this
theorem pl_emb {t : Ty} {l : List AV} : plainH (emb t :: l) = true := by
  cases l with
  | nil => simp [plainH, isRef_emb, isAdt_emb]
  | cons x l => simp [plainH, isRef_emb, isAdt_emb]
theorem regs_ty : ∀ (t : Ty) (n : Nat), 2 * dep t + 1 ≤ n → regsV n (emb t) = regsT t
  | .int, n, h => by
    obtain ⟨m, rfl, h⟩ := nat_of h
    rw [emb, regs_pl (by kernel_rfl)]
    simp [regsV_str, regsT]
  | .ref r b t, n, h => by
    obtain ⟨m, rfl, h⟩ := nat_of h
    rw [emb, regs_ref rr]
    simp only [List.flatMap_cons, regsV_bool, List.flatMap_nil, regs_ty t m (by simp only [dep] at h; omega)]
    simp [regsT]
  | .box t, n, h => by
    obtain ⟨m, rfl, h⟩ := nat_of h
    rw [emb, regs_pl (by kernel_rfl)]
    simp only [List.flatMap_cons, regsV_str, List.flatMap_nil, regs_ty t m (by simp only [dep] at h; omega)]
    simp [regsT]
  | .arr t, n, h => by
    obtain ⟨m, rfl, h⟩ := nat_of h
    rw [emb, regs_pl (by kernel_rfl)]
    simp only [List.flatMap_cons, regsV_str, regsV_int, List.flatMap_nil, regs_ty t m (by simp only [dep] at h; omega)]
    simp [regsT]
  | .tup a b, n, h => by
    obtain ⟨m, rfl, h⟩ := nat_of h
    obtain ⟨m, rfl, h⟩ : ∃ k, m = k + 1 ∧ 2 * max (dep a) (dep b) + 1 ≤ k := ⟨m - 1, by simp only [dep] at h; omega, by simp only [dep] at h; omega⟩
    rw [emb, regs_pl (by kernel_rfl)]
    simp only [List.flatMap_cons, regsV_str, List.flatMap_nil]
    rw [regs_pl pl_emb]
    simp only [List.flatMap_cons, List.flatMap_nil, regs_ty a m (by omega), regs_ty b m (by omega)]
    simp [regsT]
  | .adt r s t, n, h => by
    obtain ⟨m, rfl, h⟩ := nat_of h
    rw [emb, regs_adt ra aa rfl]
    simp only [List.flatMap_cons, List.flatMap_nil, regs_ty t m (by simp only [dep] at h; omega)]
    simp [regsT]
theorem bare_ty : ∀ (t : Ty) (n : Nat), 2 * dep t + 1 ≤ n → bareV n (emb t) = emb (bareT t)
  | .int, n, h => by
    obtain ⟨m, rfl, h⟩ := nat_of h
    rw [emb, bare_pl (by kernel_rfl)]
    simp [bareV_str, bareT, emb]
  | .ref r b t, n, h => by
    obtain ⟨m, rfl, h⟩ := nat_of h
    rw [emb, bare_ref rr]
    simp only [List.map_cons, bareV_bool, List.map_nil, bare_ty t m (by simp only [dep] at h; omega)]
    simp [bareT, emb]
  | .box t, n, h => by
    obtain ⟨m, rfl, h⟩ := nat_of h
    rw [emb, bare_pl (by kernel_rfl)]
    simp only [List.map_cons, bareV_str, List.map_nil, bare_ty t m (by simp only [dep] at h; omega)]
    simp [bareT, emb]
  | .arr t, n, h => by
    obtain ⟨m, rfl, h⟩ := nat_of h
    rw [emb, bare_pl (by kernel_rfl)]
    simp only [List.map_cons, bareV_str, bareV_int, List.map_nil, bare_ty t m (by simp only [dep] at h; omega)]
    simp [bareT, emb]
  | .tup a b, n, h => by
    obtain ⟨m, rfl, h⟩ := nat_of h
    obtain ⟨m, rfl, h⟩ : ∃ k, m = k + 1 ∧ 2 * max (dep a) (dep b) + 1 ≤ k := ⟨m - 1, by simp only [dep] at h; omega, by simp only [dep] at h; omega⟩
    rw [emb, bare_pl (by kernel_rfl)]
    simp only [List.map_cons, bareV_str, List.map_nil]
    rw [bare_pl pl_emb]
    simp only [List.map_cons, List.map_nil, bare_ty a m (by omega), bare_ty b m (by omega)]
    simp [bareT, emb]
  | .adt r s t, n, h => by
    obtain ⟨m, rfl, h⟩ := nat_of h
    rw [emb, bare_adt ra aa rfl]
    simp only [List.map_cons, List.map_nil, bare_ty t m (by simp only [dep] at h; omega)]
    simp [bareT, emb]
theorem wf_gen {n : Nat} {l : List AV} (h : plainH l = true) (hl : l.length ≤ 1000) (ha : ∀ x ∈ l, wfV n x = true) : wfV (n + 1) (.tup l) = true := by
  match l, h with
  | [], _ => rfl
  | [x], h => simp [plainH] at h; simp [wfV, h, ha x (.head _)]
  | x :: y :: r, h =>
    simp only [plainH, Bool.and_eq_true, Bool.not_eq_true'] at h
    have : ∀ z ∈ x :: y :: r, wfV n z = true := ha
    simp only [wfV, h.1, h.2, Bool.false_eq_true, if_false, Bool.and_true, Bool.and_eq_true, decide_eq_true_eq, List.all_eq_true]
    exact ⟨hl, this⟩
theorem wf_ref {n : Nat} {x : AV} {r : List AV} (hl : r.length ≤ 900) (hr : 2 ≤ r.length) (hx : wfV n x = true) (ha : ∀ x ∈ r, wfV n x = true) : wfV (n + 1) (.tup (.str "ref" :: x :: r)) = true := by
  simp only [wfV, rr, if_true, Bool.and_eq_true, decide_eq_true_eq, List.all_eq_true, List.length_cons]
  refine ⟨by omega, fun y hy => ?_, hr⟩
  rcases List.mem_cons.mp hy with rfl | hy
  · rw [wfV_str]; decide +kernel
  rcases List.mem_cons.mp hy with rfl | hy
  · exact hx
  · exact ha y hy
theorem wfA_pl {a b : AV} (ha : wfA a = true) : plainH [a, b] = true := by
  cases a with
  | str x =>
    simp only [wfA, Bool.and_eq_true, Bool.not_eq_true'] at ha
    simp [plainH, ha.1.2, ha.2]
  | _ => rfl
theorem wf_adt {n : Nat} {a b : AV} {ts : List AV} (hl : ts.length ≤ 900) (hx : wfA a = true) (hy : wfA b = true) (hp : plainH ts = true) (ha : ∀ x ∈ ts, wfV n x = true ∧ wfV (n + 1) x = true) : wfV (n + 2) (.tup [.str "adt", .str "P", .tup [a, b], .tup ts]) = true := by
  have h1 : wfV (n + 1) (.tup [a, b]) = true := wf_gen (wfA_pl hx) (by simp) fun x hx' => by
    rcases List.mem_cons.mp hx' with rfl | hx'
    · exact wfA_wf hx _
    · cases List.mem_singleton.mp hx'
      exact wfA_wf hy _
  have h2 : wfV (n + 1) (.tup ts) = true := wf_gen hp (by omega) fun x hx' => (ha x hx').1
  have e : wfV (n + 2) (.tup [.str "adt", .str "P", .tup [a, b], .tup ts]) = (decide (4 ≤ 1000) && ((wfV (n + 1) (.str "adt") && (wfV (n + 1) (.str "P") && (wfV (n + 1) (.tup [a, b]) && (wfV (n + 1) (.tup ts) && true)))) && (ts.all (wfV (n + 1)) && decide (ts.length ≤ 1000)))) := by kernel_rfl
  rw [e, h1, h2]
  simp only [wfV_str, Bool.and_eq_true, decide_eq_true_eq, List.all_eq_true, and_true, true_and]
  exact ⟨by omega, ⟨by decide +kernel, by decide +kernel⟩, fun x hx' => (ha x hx').2, by omega⟩
theorem wf_ty : ∀ (t : Ty) (n : Nat), 2 * dep t + 1 ≤ n → (∀ r ∈ regsT t, wfA r = true) → wfV n (emb t) = true
  | .int, n, h, _ => by
    obtain ⟨m, rfl, h⟩ := nat_of h
    exact wf_gen (by kernel_rfl) (by simp) fun x hx => by
      rcases List.mem_cons.mp hx with rfl | hx
      · rw [wfV_str]; decide +kernel
      · cases List.mem_singleton.mp hx; rw [wfV_str]; decide +kernel
  | .ref r b t, n, h, w => by
    obtain ⟨m, rfl, h⟩ := nat_of h
    refine wf_ref (by simp) (by simp) (wfA_wf (w r (.head _)) _) fun x hx => ?_
    rcases List.mem_cons.mp hx with rfl | hx
    · exact wfV_bool
    · cases List.mem_singleton.mp hx
      exact wf_ty t m (by simp only [dep] at h; omega) fun r hr => w r (.tail _ hr)
  | .box t, n, h, w => by
    obtain ⟨m, rfl, h⟩ := nat_of h
    refine wf_gen (by kernel_rfl) (by simp) fun x hx => ?_
    rcases List.mem_cons.mp hx with rfl | hx
    · rw [wfV_str]; decide +kernel
    · cases List.mem_singleton.mp hx
      exact wf_ty t m (by simp only [dep] at h; omega) w
  | .arr t, n, h, w => by
    obtain ⟨m, rfl, h⟩ := nat_of h
    refine wf_gen (by kernel_rfl) (by simp) fun x hx => ?_
    rcases List.mem_cons.mp hx with rfl | hx
    · rw [wfV_str]; decide +kernel
    rcases List.mem_cons.mp hx with rfl | hx
    · exact wf_ty t m (by simp only [dep] at h; omega) w
    · cases List.mem_singleton.mp hx
      exact wfV_int
  | .tup a b, n, h, w => by
    obtain ⟨m, rfl, h⟩ := nat_of h
    obtain ⟨m, rfl, h⟩ : ∃ k, m = k + 1 ∧ 2 * max (dep a) (dep b) + 1 ≤ k := ⟨m - 1, by simp only [dep] at h; omega, by simp only [dep] at h; omega⟩
    refine wf_gen (by kernel_rfl) (by simp) fun x hx => ?_
    rcases List.mem_cons.mp hx with rfl | hx
    · rw [wfV_str]; decide +kernel
    cases List.mem_singleton.mp hx
    refine wf_gen pl_emb (by simp) fun x hx => ?_
    rcases List.mem_cons.mp hx with rfl | hx
    · exact wf_ty a m (by omega) fun r hr => w r (List.mem_append_left _ hr)
    · cases List.mem_singleton.mp hx
      exact wf_ty b m (by omega) fun r hr => w r (List.mem_append_right _ hr)
  | .adt r s t, n, h, w => by
    obtain ⟨m, rfl, h⟩ := nat_of h
    obtain ⟨m, rfl, h2⟩ : ∃ k, m = k + 1 ∧ 2 * dep t + 1 ≤ k := ⟨m - 1, by simp only [dep] at h; omega, by simp only [dep] at h; omega⟩
    refine wf_adt (by simp) (w r (.head _)) (w s (.tail _ (.head _))) pl_emb fun x hx => ?_
    cases List.mem_singleton.mp hx
    have w' : ∀ r ∈ regsT t, wfA r = true := fun r hr => w r (.tail _ (.tail _ hr))
    exact ⟨wf_ty t m h2 w', wf_ty t (m + 1) (by omega) w'⟩
theorem bareT_num {u : List (Str × AV)} : ∀ (t : Ty) (n : Int), bareT (num u n t).1 = bareT t
  | .int, _ => rfl
  | .ref r m t, n => by show Ty.ref _ m (bareT (num u _ t).1) = _; rw [bareT_num t]; rfl
  | .box t, n => by show Ty.box (bareT (num u _ t).1) = _; rw [bareT_num t]; rfl
  | .arr t, n => by show Ty.arr (bareT (num u _ t).1) = _; rw [bareT_num t]; rfl
  | .tup a b, n => by show Ty.tup (bareT (num u _ a).1) (bareT (num u _ b).1) = _; rw [bareT_num a, bareT_num b]; rfl
  | .adt r s t, n => by rw [num_adt]; show Ty.adt _ _ (bareT (num u _ t).1) = _; rw [bareT_num t]; rfl
theorem dep_num {u : List (Str × AV)} : ∀ (t : Ty) (n : Int), dep (num u n t).1 = dep t
  | .int, _ => rfl
  | .ref r m t, n => by show dep (num u _ t).1 + 1 = _; rw [dep_num t]; rfl
  | .box t, n => by show dep (num u _ t).1 + 1 = _; rw [dep_num t]; rfl
  | .arr t, n => by show dep (num u _ t).1 + 1 = _; rw [dep_num t]; rfl
  | .tup a b, n => by show max (dep (num u _ a).1) (dep (num u _ b).1) + 1 = _; rw [dep_num a, dep_num b]; rfl
  | .adt r s t, n => by rw [num_adt]; show dep (num u _ t).1 + 1 = _; rw [dep_num t]; rfl
theorem dep_bare : ∀ (t : Ty), dep (bareT t) = dep t
  | .int => rfl
  | .ref r m t => by show dep (bareT t) + 1 = _; rw [dep_bare t]; rfl
  | .box t => by show dep (bareT t) + 1 = _; rw [dep_bare t]; rfl
  | .arr t => by show dep (bareT t) + 1 = _; rw [dep_bare t]; rfl
  | .tup a b => by show max (dep (bareT a)) (dep (bareT b)) + 1 = _; rw [dep_bare a, dep_bare b]; rfl
  | .adt r s t => by show dep (bareT t) + 1 = _; rw [dep_bare t]; rfl
theorem none_bare : ∀ (t : Ty), noneT (bareT t)
  | .int, r, h => by cases h
  | .ref _ m t, r, h => by
    rcases List.mem_cons.mp h with rfl | h
    · rfl
    · exact none_bare t r h
  | .box t, r, h => none_bare t r h
  | .arr t, r, h => none_bare t r h
  | .tup a b, r, h => by
    rcases List.mem_append.mp h with h | h
    · exact none_bare a r h
    · exact none_bare b r h
  | .adt _ _ t, r, h => by
    rcases List.mem_cons.mp h with rfl | h
    · rfl
    rcases List.mem_cons.mp h with rfl | h
    · rfl
    · exact none_bare t r h
theorem bare_none : ∀ (t : Ty), noneT t → bareT t = t
  | .int, _ => rfl
  | .ref r m t, h => by rw [bareT, bare_none t fun r hr => h r (.tail _ hr), h r (.head _)]
  | .box t, h => by rw [bareT, bare_none t h]
  | .arr t, h => by rw [bareT, bare_none t h]
  | .tup a b, h => by rw [bareT, bare_none a fun r hr => h r (List.mem_append_left _ hr), bare_none b fun r hr => h r (List.mem_append_right _ hr)]
  | .adt r s t, h => by rw [bareT, bare_none t fun r hr => h r (.tail _ (.tail _ hr)), h r (.head _), h s (.tail _ (.head _))]
/-- the numbers n .. m, in some order -/
noncomputable def Fresh (l : List AV) (n m : Int) : Prop := ∃ k : Nat, m = n + k ∧ l.Perm ((List.range k).map fun (i : Nat) => AV.int (n + i))
theorem Fresh.nil {n : Int} : Fresh [] n n := ⟨0, by simp, .refl _⟩
theorem Fresh.one {n : Int} : Fresh [.int n] n (n + 1) := ⟨1, by simp, by simp [List.range_succ]⟩
theorem Fresh.app {l l' : List AV} {n m k : Int} (h : Fresh l n m) (h' : Fresh l' m k) : Fresh (l ++ l') n k := by
  obtain ⟨i, rfl, p⟩ := h
  obtain ⟨j, rfl, q⟩ := h'
  refine ⟨i + j, by push_cast; omega, (p.append q).trans ?_⟩
  rw [List.range_add, List.map_append, List.map_map]
  refine .append (.refl _) (.of_eq (List.map_congr_left fun x _ => ?_))
  show AV.int _ = AV.int _
  congr 1
  push_cast
  omega
theorem Fresh.perm {l l' : List AV} {n m : Int} (h : Fresh l n m) (p : l'.Perm l) : Fresh l' n m := by
  obtain ⟨i, e, q⟩ := h
  exact ⟨i, e, p.trans q⟩
theorem fresh_ty {u : List (Str × AV)} : ∀ (t : Ty) (n : Int), noneT t → Fresh (regsT (num u n t).1) n (num u n t).2
  | .int, n, _ => .nil
  | .ref r m t, n, h => by
    cases h r (.head _)
    exact Fresh.app (l := [.int n]) .one (fresh_ty t (n + 1) fun r hr => h r (.tail _ hr))
  | .box t, n, h => fresh_ty t n h
  | .arr t, n, h => fresh_ty t n h
  | .tup a b, n, h => Fresh.app (fresh_ty a n fun r hr => h r (List.mem_append_left _ hr)) (fresh_ty b _ fun r hr => h r (List.mem_append_right _ hr))
  | .adt r s t, n, h => by
    cases h r (.head _)
    cases h s (.tail _ (.head _))
    exact Fresh.app (l := [.int n]) .one (Fresh.app (l := [.int (n + 1)]) .one (fresh_ty t (n + 1 + 1) fun r hr => h r (.tail _ (.tail _ hr))))
theorem Fresh.mem {l : List AV} {n m : Int} (h : Fresh l n m) {x : AV} (hx : x ∈ l) : ∃ i, x = .int i := by
  obtain ⟨k, _, p⟩ := h
  obtain ⟨i, _, e⟩ := List.mem_map.mp (p.mem_iff.mp hx)
  exact ⟨_, e.symm⟩
end
section
set_option linter.all false
theorem drawn_ty {names : List AV} : ∀ (k : Nat) (t : Ty), drawnT names k t → dep t ≤ 2 * k ∧ ∀ r ∈ regsT t, r ∈ names
  | _, .int, _ => ⟨Nat.zero_le _, fun _ h => nomatch h⟩
  | 0, .ref .., h => h.elim
  | 0, .box .., h => h.elim
  | 0, .arr .., h => h.elim
  | 0, .tup .., h => h.elim
  | 0, .adt .., h => h.elim
  | k + 1, .ref r _ t, h => by
    have i := drawn_ty k t h.2
    refine ⟨by simp only [dep]; omega, fun x hx => ?_⟩
    rcases List.mem_cons.mp hx with rfl | hx
    · exact h.1
    · exact i.2 x hx
  | k + 1, .box t, h => by
    have i := drawn_ty k t h
    exact ⟨by simp only [dep]; omega, i.2⟩
  | k + 1, .tup a (.arr b), h => by
    have i := drawn_ty k a h.1
    have j := drawn_ty k b h.2
    refine ⟨by simp only [dep]; omega, fun x hx => ?_⟩
    rcases List.mem_append.mp hx with hx | hx
    · exact i.2 x hx
    · exact j.2 x hx
  | k + 1, .adt r s t, h => by
    have i := drawn_ty k t h.2.2
    refine ⟨by simp only [dep]; omega, fun x hx => ?_⟩
    rcases List.mem_cons.mp hx with rfl | hx
    · exact h.1
    rcases List.mem_cons.mp hx with rfl | hx
    · exact h.2.1
    · exact i.2 x hx
  | _ + 1, .arr _, h => h.elim
  | _ + 1, .tup _ .int, h => h.elim
  | _ + 1, .tup _ (.ref ..), h => h.elim
  | _ + 1, .tup _ (.box ..), h => h.elim
  | _ + 1, .tup _ (.tup ..), h => h.elim
  | _ + 1, .tup _ (.adt ..), h => h.elim
theorem good_ty {u : List (Str × AV)} : ∀ (t : Ty), (∀ r ∈ regsT t, goodR u r) → goodT u t
  | .int, _ => trivial
  | .ref r _ t, h => ⟨h r (.head _), good_ty t fun x hx => h x (.tail _ hx)⟩
  | .box t, h => good_ty t h
  | .arr t, h => good_ty t h
  | .tup a b, h => ⟨good_ty a fun x hx => h x (List.mem_append_left _ hx), good_ty b fun x hx => h x (List.mem_append_right _ hx)⟩
  | .adt r s t, h => ⟨h r (.head _), h s (.tail _ (.head _)), good_ty t fun x hx => h x (.tail _ (.tail _ hx))⟩
/-- the old, the new, its regions -/
noncomputable def Nm (N : Nat) (d d' : AV) (l : List AV) : Prop := ∀ M, N ≤ M → wfV M d = true ∧ wfV M d' = true ∧ bareV M d' = d ∧ regsV M d' = l
noncomputable def NmL (N : Nat) : List AV → List AV → List AV → Prop
  | [], [], l => l = []
  | d :: ds, d' :: ds', l => ∃ a b, l = a ++ b ∧ Nm N d d' a ∧ NmL N ds ds' b
  | _, _, _ => False
theorem Nm.mono {N M : Nat} {d d' : AV} {l : List AV} (h : Nm N d d' l) (k : N ≤ M) : Nm M d d' l := fun x hx => h x (by omega)
theorem NmL.all {N M : Nat} (hM : N ≤ M) : ∀ {ds ds' l : List AV}, NmL N ds ds' l → ds'.length = ds.length ∧ (∀ x ∈ ds, wfV M x = true) ∧ (∀ x ∈ ds', wfV M x = true) ∧ ds'.map (bareV M) = ds ∧ ds'.flatMap (regsV M) = l
  | [], [], l, h => by cases h; exact ⟨rfl, (fun _ h => nomatch h), (fun _ h => nomatch h), rfl, rfl⟩
  | d :: ds, d' :: ds', l, h => by
    obtain ⟨a, b, rfl, h1, h2⟩ := h
    obtain ⟨i1, i2, i3, i4, i5⟩ := NmL.all hM h2
    obtain ⟨j1, j2, j3, j4⟩ := h1 M hM
    refine ⟨by simp [i1], fun x hx => ?_, fun x hx => ?_, by rw [List.map_cons, i4, j3], by rw [List.flatMap_cons, i5, j4]⟩
    · rcases List.mem_cons.mp hx with rfl | hx
      · exact j1
      · exact i2 x hx
    · rcases List.mem_cons.mp hx with rfl | hx
      · exact j2
      · exact i3 x hx
  | [], _ :: _, _, h => h.elim
  | _ :: _, [], _, h => h.elim
theorem Nm.tup {N : Nat} {ds ds' l : List AV} (h : NmL N ds ds' l) (hz : ds.length ≤ 1000) (hp : plainH ds = true) (hp' : plainH ds' = true) : Nm (N + 1) (.tup ds) (.tup ds') l := by
  intro M hM
  obtain ⟨M, rfl, hM'⟩ := nat_of hM
  obtain ⟨i1, i2, i3, i4, i5⟩ := h.all hM'
  exact ⟨wf_gen hp hz i2, wf_gen hp' (by omega) i3, by rw [bare_pl hp', i4], by rw [regs_pl hp', i5]⟩
theorem Nm.lst {N : Nat} {ds ds' l : List AV} (h : NmL N ds ds' l) (hz : ds.length ≤ 1000) : Nm (N + 1) (.lst ds) (.lst ds') l := by
  intro M hM
  obtain ⟨M, rfl, hM'⟩ := nat_of hM
  obtain ⟨i1, i2, i3, i4, i5⟩ := h.all hM'
  refine ⟨?_, ?_, ?_, ?_⟩
  · simp only [wfV, Bool.and_eq_true, decide_eq_true_eq, List.all_eq_true]; exact ⟨i2, hz⟩
  · simp only [wfV, Bool.and_eq_true, decide_eq_true_eq, List.all_eq_true]; exact ⟨i3, by omega⟩
  · simp only [bareV]; rw [i4]
  · simp only [regsV]; exact i5
theorem Nm.ref {N : Nat} {i : Int} {ds ds' l : List AV} (h : NmL N ds ds' l) (hz : ds.length ≤ 900) (h2 : 2 ≤ ds.length) : Nm (N + 1) (.tup (.str "ref" :: .none :: ds)) (.tup (.str "ref" :: .int i :: ds')) (.int i :: l) := by
  intro M hM
  obtain ⟨M, rfl, hM'⟩ := nat_of hM
  obtain ⟨i1, i2, i3, i4, i5⟩ := h.all hM'
  exact ⟨wf_ref hz h2 wfV_none i2, wf_ref (by omega) (by omega) wfV_int i3, by rw [bare_ref rr, i4], by rw [regs_ref rr, i5]⟩
theorem Nm.str {N : Nat} {x : Str} (h : PyData.strOk x = true := by decide +kernel) : Nm N (.str x) (.str x) [] := fun M _ => ⟨by rw [wfV_str, h], by rw [wfV_str, h], bareV_str, regsV_str⟩
theorem Nm.int {N : Nat} {x : Int} : Nm N (.int x) (.int x) [] := fun M _ => ⟨wfV_int, wfV_int, bareV_int, regsV_int⟩
theorem Nm.bool {N : Nat} {x : Bool} : Nm N (.bool x) (.bool x) [] := fun M _ => ⟨wfV_bool, wfV_bool, bareV_bool, regsV_bool⟩
theorem Nm.none {N : Nat} : Nm N .none .none [] := fun M _ => ⟨wfV_none, wfV_none, bareV_none, regsV_none⟩
theorem NmL.nil {N : Nat} : NmL N [] [] [] := rfl
theorem NmL.cons {N : Nat} {d d' : AV} {ds ds' a b : List AV} (h : Nm N d d' a) (k : NmL N ds ds' b) : NmL N (d :: ds) (d' :: ds') (a ++ b) := ⟨a, b, rfl, h, k⟩
theorem NmL.c {N : Nat} {d d' : AV} {ds ds' b : List AV} (h : Nm N d d' []) (k : NmL N ds ds' b) : NmL N (d :: ds) (d' :: ds') b := ⟨[], b, rfl, h, k⟩
theorem NmL.one {N : Nat} {d d' : AV} {a : List AV} (h : Nm N d d' a) : NmL N [d] [d'] a := ⟨a, [], by simp, h, rfl⟩
/-- numbers from n up to n' -/
noncomputable def Gd (N : Nat) (d d' : AV) (n n' : Int) : Prop := ∃ l, Nm N d d' l ∧ Fresh l n n'
noncomputable def GdL (N : Nat) (ds ds' : List AV) (n n' : Int) : Prop := ∃ l, NmL N ds ds' l ∧ Fresh l n n'
theorem Gd.mono {N M : Nat} {d d' : AV} {n n' : Int} (h : Gd N d d' n n') (k : N ≤ M) : Gd M d d' n n' := let ⟨l, a, b⟩ := h; ⟨l, a.mono k, b⟩
theorem Gd.of {N : Nat} {d d' : AV} {n : Int} (h : Nm N d d' []) : Gd N d d' n n := ⟨[], h, .nil⟩
theorem GdL.nil {N : Nat} {n : Int} : GdL N [] [] n n := ⟨[], .nil, .nil⟩
theorem GdL.cons {N : Nat} {d d' : AV} {ds ds' : List AV} {n m k : Int} (h : Gd N d d' n m) (t : GdL N ds ds' m k) : GdL N (d :: ds) (d' :: ds') n k := let ⟨a, h1, h2⟩ := h; let ⟨b, t1, t2⟩ := t; ⟨a ++ b, .cons h1 t1, h2.app t2⟩
theorem GdL.c {N : Nat} {d d' : AV} {ds ds' : List AV} {n k : Int} (h : Nm N d d' []) (t : GdL N ds ds' n k) : GdL N (d :: ds) (d' :: ds') n k := .cons (.of h) t
theorem GdL.one {N : Nat} {d d' : AV} {n m : Int} (h : Gd N d d' n m) : GdL N [d] [d'] n m := .cons h .nil
theorem GdL.app {N : Nat} {n m k : Int} : ∀ {ds ds' es es' : List AV}, GdL N ds ds' n m → GdL N es es' m k → GdL N (ds ++ es) (ds' ++ es') n k
  | [], [], _, _, h, t => by
    obtain ⟨l, h1, h2⟩ := h
    cases h1
    obtain ⟨b, t1, t2⟩ := t
    exact ⟨b, t1, Fresh.app h2 t2⟩
  | d :: ds, d' :: ds', es, es', h, t => by
    obtain ⟨l, ⟨a, b, rfl, h1, h2⟩, h3⟩ := h
    obtain ⟨e, t1, t2⟩ := t
    have app : ∀ {xs xs' ys ys' p q : List AV}, NmL N xs xs' p → NmL N ys ys' q → NmL N (xs ++ ys) (xs' ++ ys') (p ++ q) := by
      intro xs
      induction xs with
      | nil => intro xs' ys ys' p q x y; cases xs' with | nil => cases x; exact y | cons _ _ => exact x.elim
      | cons z zs ih =>
        intro xs' ys ys' p q x y
        cases xs' with
        | nil => exact x.elim
        | cons z' zs' =>
          obtain ⟨a, b, rfl, x1, x2⟩ := x
          exact ⟨a, b ++ q, by simp, x1, ih x2 y⟩
    refine ⟨(a ++ b) ++ e, ?_, h3.app t2⟩
    exact app (xs := d :: ds) ⟨a, b, rfl, h1, h2⟩ t1
  | [], _ :: _, _, _, h, _ => by obtain ⟨l, h1, _⟩ := h; exact h1.elim
  | _ :: _, [], _, _, h, _ => by obtain ⟨l, h1, _⟩ := h; exact h1.elim
theorem Gd.tup {N : Nat} {ds ds' : List AV} {n m : Int} (h : GdL N ds ds' n m) (hz : ds.length ≤ 1000) (hp : plainH ds = true) (hp' : plainH ds' = true) : Gd (N + 1) (.tup ds) (.tup ds') n m := let ⟨l, a, b⟩ := h; ⟨l, .tup a hz hp hp', b⟩
theorem Gd.lst {N : Nat} {ds ds' : List AV} {n m : Int} (h : GdL N ds ds' n m) (hz : ds.length ≤ 1000) : Gd (N + 1) (.lst ds) (.lst ds') n m := let ⟨l, a, b⟩ := h; ⟨l, .lst a hz, b⟩
theorem GdL.len {N : Nat} {ds ds' : List AV} {n m : Int} (h : GdL N ds ds' n m) : ds'.length = ds.length := let ⟨_, a, _⟩ := h; (a.all (Nat.le_refl _)).1
theorem gd_ty {u : List (Str × AV)} {t : Ty} {n : Int} {D : Nat} (hn : noneT t) (hd : dep t ≤ D) : Gd (2 * D + 1) (emb t) (emb (num u n t).1) n (num u n t).2 := by
  refine ⟨regsT (num u n t).1, fun M hM => ⟨?_, ?_, ?_, ?_⟩, fresh_ty t n hn⟩
  · exact wf_ty t M (by omega) fun r hr => by rw [hn r hr]; rfl
  · exact wf_ty _ M (by rw [dep_num]; omega) fun r hr => by obtain ⟨i, rfl⟩ := (fresh_ty t n hn).mem hr; rfl
  · rw [bare_ty _ M (by rw [dep_num]; omega), bareT_num, bare_none t hn]
  · exact regs_ty _ M (by rw [dep_num]; omega)
theorem drawn_none {k : Nat} {t : Ty} (h : drawnT [.none] k t) : noneT t ∧ dep t ≤ 2 * k := ⟨fun r hr => List.mem_singleton.mp ((drawn_ty k t h).2 r hr), (drawn_ty k t h).1⟩
theorem gd_dr {u : List (Str × AV)} {t : Ty} {n : Int} (h : drawnT [.none] 2 t) : Gd 9 (emb t) (emb (num u n t).1) n (num u n t).2 := gd_ty (drawn_none h).1 (drawn_none h).2
theorem gd_op {u : List (Str × AV)} {n : Int} : ∀ {o : Op}, (drawnO o ∨ o = .copy 0) → Gd 10 (embO o) (embO (numO u n o).1) n (numO u n o).2
  | .copy i, _ => .of (.tup (.c .str (.one (.tup (.c .int (.one (.tup (N := 7) .nil (by simp) rfl rfl))) (by simp) rfl rfl))) (by simp) (by kernel_rfl) (by kernel_rfl))
  | .move, _ => .of (.tup (.c .str (.one (.tup (.c .int (.one (.tup (N := 7) (.one (.tup (N := 6) (.one .str) (by simp) (by kernel_rfl) (by kernel_rfl))) (by simp) rfl rfl))) (by simp) rfl rfl))) (by simp) (by kernel_rfl) (by kernel_rfl))
  | .const t, h => .tup (.c .str (.cons (gd_dr (h.resolve_right (by simp))) (.c .int .nil))) (by simp) (by kernel_rfl) (by kernel_rfl)
theorem pl_op {o : Op} {l : List AV} : plainH (embO o :: l) = true := by cases o <;> cases l <;> rfl
theorem pl_adt {t : Ty} {l : List AV} : plainH (.str "adt" :: emb t :: l) = true := by simp [plainH, ra, isS_emb]
theorem gd_rv {u : List (Str × AV)} {n : Int} : ∀ {v : Rv}, drawnR v → Gd 13 (embR v) (embR (numR u n v).1) n (numR u n v).2
  | .ref r m p, h => by
    obtain ⟨rfl, h⟩ := h
    rcases h with ⟨rfl, rfl⟩ | ⟨rfl, rfl⟩
    · exact ⟨_, .ref (.c .str (.one (.tup (.c .int (.one (.tup (.one (.tup (N := 9) (.c .str (.one .int)) (by simp) (by kernel_rfl) (by kernel_rfl))) (by simp) rfl rfl))) (by simp) rfl rfl))) (by simp) (by simp), .one⟩
    · exact ⟨_, .ref (.c .str (.one (.tup (.c .int (.one (.tup (N := 10) .nil (by simp) rfl rfl))) (by simp) rfl rfl))) (by simp) (by simp), .one⟩
  | .use o, h => Gd.mono (.tup (.c .str (.one (gd_op (.inl h)))) (by simp) (by kernel_rfl) (by kernel_rfl)) (by omega)
  | .box o, h => Gd.mono (.tup (.c .str (.one (gd_op (.inl h)))) (by simp) (by kernel_rfl) (by kernel_rfl)) (by omega)
  | .cast o t, h => Gd.mono (.tup (.c .str (.cons (gd_op (.inl h.1)) (.one (Gd.mono (gd_dr h.2) (by omega))))) (by simp) (by kernel_rfl) (by kernel_rfl)) (by omega)
  | .bin a b, h => by
    obtain ⟨h, rfl⟩ := h
    exact Gd.mono (.tup (.c .str (.c .str (.cons (gd_op (.inl h)) (.one (gd_op (.inl h)))))) (by simp) (by kernel_rfl) (by kernel_rfl)) (by omega)
  | .tup os, h => by
    obtain ⟨o, h, rfl⟩ := h
    exact Gd.mono (.tup (.c .str (.one (.tup (.cons (gd_op (.inl h)) (.one (gd_op (.inr rfl)))) (by simp) pl_op pl_op))) (by simp) (by kernel_rfl) (by kernel_rfl)) (by omega)
  | .adt t os, h => by
    obtain ⟨s, o, rfl, hs, h, rfl⟩ := h
    have ht : noneT (.adt .none .none s) := fun r hr => by
      rcases List.mem_cons.mp hr with rfl | hr
      · rfl
      rcases List.mem_cons.mp hr with rfl | hr
      · rfl
      · exact (drawn_none hs).1 r hr
    have hd : dep (.adt .none .none s) ≤ 5 := by have := (drawn_none hs).2; simp only [dep]; omega
    exact .tup (.c .str (.cons (Gd.mono (gd_ty ht hd) (by omega)) (.c .int (.one (Gd.mono (.tup (.cons (gd_op (.inl h)) (.one (gd_op (.inl h)))) (by simp) pl_op pl_op) (by omega)))))) (by simp) pl_adt pl_adt
theorem gd_stm {u : List (Str × AV)} {n : Int} : ∀ {v : Stm}, (match v with | .live => True | .assign v => drawnR v | .print o => drawnO o) → Gd 14 (embS v) (embS (numS u n v).1) n (numS u n v).2
  | .live, _ => .of (Nm.tup (N := 13) (.c .str (.one .int)) (by simp) (by kernel_rfl) (by kernel_rfl))
  | .assign v, h => .tup (.c .str (.c (Nm.mono (.tup (.c .int (.one (.tup (N := 7) .nil (by simp) rfl rfl))) (by simp) rfl rfl) (by omega)) (.one (gd_rv h)))) (by simp) (by kernel_rfl) (by kernel_rfl)
  | .print o, h => .tup (.c .str (.one (Gd.mono (gd_op (.inl h)) (by omega)))) (by simp) (by kernel_rfl) (by kernel_rfl)
theorem gd_tm {u : List (Str × AV)} {n many : Int} : ∀ {v : Tm}, drawnE many v → Gd 14 (embT v) (embT (numT u n v).1) n (numT u n v).2
  | .ret, _ => .of (Nm.tup (N := 13) (.one .str) (by simp) (by kernel_rfl) (by kernel_rfl))
  | .goto g, _ => .of (Nm.tup (N := 13) (.c .str (.one .int)) (by simp) (by kernel_rfl) (by kernel_rfl))
  | .callF ts os g, h => by
    obtain ⟨t, o, rfl, ht, rfl, ho, _⟩ := h
    obtain ⟨l1, a1, b1⟩ := gd_op (u := u) (n := n) (.inl ho)
    obtain ⟨l2, a2, b2⟩ := gd_dr (u := u) (n := (numO u n o).2) ht
    refine ⟨l2 ++ l1, ?_, (b1.app b2).perm List.perm_append_comm⟩
    have c1 : Nm 13 (embC none [t]) (embC none (numL u (numOs u n [o]).2 [t]).1) l2 := Nm.mono (.tup (.c .str (.c .str (.one (.tup (.one a2) (by simp) pl_emb pl_emb)))) (by simp) (by kernel_rfl) (by kernel_rfl)) (by omega)
    have c2 : Nm 13 (.tup ([o].map embO)) (.tup ((numOs u n [o]).1.map embO)) l1 := Nm.mono (.tup (.one a1) (by simp) pl_op pl_op) (by omega)
    have e : l2 ++ l1 = l2 ++ (l1 ++ []) := by simp
    rw [e]
    exact .tup (.c .str (.cons c1 (.cons c2 (.c (Nm.mono (.tup (.c .int (.one (.tup (N := 7) .nil (by simp) rfl rfl))) (by simp) rfl rfl) (by omega)) (.one .int))))) (by simp) (by kernel_rfl) (by kernel_rfl)
  | .callM t ts os g, h => by
    obtain ⟨o, rfl, ht, rfl, ho, _⟩ := h
    obtain ⟨l1, a1, b1⟩ := gd_op (u := u) (n := n) (.inl ho)
    obtain ⟨l2, a2, b2⟩ := gd_op (u := u) (n := (numO u n o).2) (.inl ho)
    obtain ⟨l3, a3, b3⟩ := gd_dr (u := u) (n := (numO u (numO u n o).2 o).2) ht
    obtain ⟨l4, a4, b4⟩ := gd_dr (u := u) (n := (num u (numO u (numO u n o).2 o).2 t).2) ht
    refine ⟨(l3 ++ l4) ++ (l1 ++ l2), ?_, ((b1.app b2).app (b3.app b4)).perm List.perm_append_comm⟩
    have c1 : Nm 13 (embC (some t) [t]) (embC (some (num u (numOs u n [o, o]).2 t).1) (numL u (num u (numOs u n [o, o]).2 t).2 [t]).1) (l3 ++ l4) := Nm.mono (.tup (.c .str (.c .str (.c .str (.cons (a3.mono (by omega)) (.one (.tup (.one a4) (by simp) pl_emb pl_emb)))))) (by simp) (by kernel_rfl) (by kernel_rfl)) (by omega)
    have c2 : Nm 13 (.tup ([o, o].map embO)) (.tup ((numOs u n [o, o]).1.map embO)) (l1 ++ l2) := Nm.mono (.tup (.cons a1 (.one a2)) (by simp) pl_op pl_op) (by omega)
    have e : (l3 ++ l4) ++ (l1 ++ l2) = (l3 ++ l4) ++ ((l1 ++ l2) ++ []) := by simp
    rw [e]
    exact .tup (.c .str (.cons c1 (.cons c2 (.c (Nm.mono (.tup (.c .int (.one (.tup (N := 7) .nil (by simp) rfl rfl))) (by simp) rfl rfl) (by omega)) (.one .int))))) (by simp) (by kernel_rfl) (by kernel_rfl)
  | .switch o g, h => .tup (.c .str (.cons (Gd.mono (gd_op (.inl h.1)) (by omega)) (.c (Nm.mono (.tup (.one (.tup (N := 7) (.c .int (.one .int)) (by simp) rfl rfl)) (by simp) rfl rfl) (by omega)) (.c .int .nil)))) (by simp) (by kernel_rfl) (by kernel_rfl)
  | .assert o g, h => .tup (.c .str (.cons (Gd.mono (gd_op (.inl h.1)) (by omega)) (.c .bool (.c .str (.c .int .nil))))) (by simp) (by kernel_rfl) (by kernel_rfl)
noncomputable def drawnS : Stm → Prop
  | .live => True
  | .assign v => drawnR v
  | .print o => drawnO o
theorem gd_stms {u : List (Str × AV)} : ∀ {vs : List Stm} {n : Int}, (∀ v ∈ vs, drawnS v) → GdL 14 (vs.map embS) ((numSs u n vs).1.map embS) n (numSs u n vs).2
  | [], _, _ => .nil
  | v :: vs, n, h => .cons (gd_stm (by have := h v (.head _); cases v <;> exact this)) (gd_stms fun x hx => h x (.tail _ hx))
/-- a drawn block -/
noncomputable def drawnB (many : Int) (b : Bl) : Prop := (∀ v ∈ b.1, drawnS v) ∧ b.1.length ≤ 5 ∧ drawnE many b.2
theorem gd_b {u : List (Str × AV)} {many : Int} {b : Bl} {n : Int} (h : drawnB many b) : Gd 16 (embB b) (embB (numB u n b).1) n (numB u n b).2 :=
  .lst (.cons (.lst (gd_stms h.1) (by rw [List.length_map]; exact Nat.le_trans h.2.1 (by omega))) (.one (Gd.mono (gd_tm h.2.2) (by omega)))) (by simp)
theorem gd_bs {u : List (Str × AV)} {many : Int} : ∀ {bs : List Bl} {n : Int}, (∀ b ∈ bs, drawnB many b) → GdL 16 (bs.map embB) ((numBs u n bs).1.map embB) n (numBs u n bs).2
  | [], _, _ => .nil
  | b :: bs, n, h => .cons (gd_b (h b (.head _))) (gd_bs fun x hx => h x (.tail _ hx))
theorem gd_tys {u : List (Str × AV)} {D : Nat} : ∀ {ts : List Ty} {n : Int}, (∀ t ∈ ts, noneT t ∧ dep t ≤ D) → GdL (2 * D + 1) (ts.map emb) ((numL u n ts).1.map emb) n (numL u n ts).2
  | [], _, _ => .nil
  | t :: ts, n, h => .cons (gd_ty (h t (.head _)).1 (h t (.head _)).2) (gd_tys fun x hx => h x (.tail _ hx))
end
section
set_option linter.all false
/-! sizes -/
noncomputable def Sz (d : AV) (k : Nat) : Prop := (py d).showable = true ∧ (py d).shown.length ≤ k
noncomputable def SzL (ds : List AV) (k : Nat) : Prop := PyData.showableAll (pyL ds) = true ∧ ((PyData.shownAll (pyL ds)).map (·.length)).sum + 2 * ds.length ≤ k
theorem shownAll_len : ∀ ds : List AV, (PyData.shownAll (pyL ds)).length = ds.length
  | [] => rfl
  | d :: ds => by simp only [pyL, PyData.shownAll, List.length_cons, shownAll_len ds]
theorem Sz.mono {d : AV} {j k : Nat} (h : Sz d j) (q : j ≤ k) : Sz d k := ⟨h.1, Nat.le_trans h.2 q⟩
theorem SzL.mono {d : List AV} {j k : Nat} (h : SzL d j) (q : j ≤ k) : SzL d k := ⟨h.1, Nat.le_trans h.2 q⟩
theorem SzL.nil {k : Nat} : SzL [] k := ⟨rfl, Nat.zero_le _⟩
theorem SzL.cons {d : AV} {ds : List AV} {a b : Nat} (h : Sz d a) (k : SzL ds b) : SzL (d :: ds) (a + 2 + b) := by
  obtain ⟨h1, h2⟩ := h
  obtain ⟨k1, k2⟩ := k
  refine ⟨by simp only [pyL, PyData.showableAll, h1, k1, Bool.and_self], ?_⟩
  simp only [pyL, PyData.shownAll, List.map_cons, List.sum_cons, List.length_cons]
  omega
theorem SzL.all {k n : Nat} : ∀ {ds : List AV}, ds.length ≤ n → (∀ d ∈ ds, Sz d k) → SzL ds ((k + 2) * n)
  | [], _, _ => .nil
  | d :: ds, hz, h => by
    have hz' : ds.length + 1 ≤ n := hz
    have := SzL.all (k := k) (n := n - 1) (ds := ds) (by omega) fun x hx => h x (.tail _ hx)
    refine (SzL.cons (h d (.head _)) this).mono ?_
    obtain ⟨m, rfl⟩ : ∃ m, n = m + 1 := ⟨n - 1, by omega⟩
    simp only [Nat.add_sub_cancel, Nat.mul_add, Nat.mul_one]
    omega
theorem Sz.tup {ds : List AV} {k : Nat} (h : SzL ds k) : Sz (.tup ds) (k + 3) := by
  refine ⟨h.1, ?_⟩
  have := tupleText_len_le (PyData.shownAll (pyL ds))
  have e := shownAll_len ds
  have := h.2
  show (tupleText _).length ≤ _
  omega
theorem Sz.lst {ds : List AV} {k : Nat} (h : SzL ds k) : Sz (.lst ds) (k + 3) := by
  refine ⟨h.1, ?_⟩
  have := listText_len_le (PyData.shownAll (pyL ds))
  have e := shownAll_len ds
  have := h.2
  show (listText _).length ≤ _
  omega
theorem Sz.str {x : Str} (h : (reprText x).length ≤ 12 := by decide +kernel) : Sz (.str x) 12 := ⟨rfl, h⟩
theorem Sz.none : Sz .none 12 := ⟨rfl, by decide +kernel⟩
theorem Sz.bool {b : Bool} : Sz (.bool b) 12 := by cases b <;> exact ⟨rfl, by decide +kernel⟩
theorem Sz.int {i : Int} (h0 : 0 ≤ i := by decide) (h1 : i < 8 := by decide) : Sz (.int i) 12 := by
  have : i = 0 ∨ i = 1 ∨ i = 2 ∨ i = 3 ∨ i = 4 ∨ i = 5 ∨ i = 6 ∨ i = 7 := by omega
  rcases this with rfl | rfl | rfl | rfl | rfl | rfl | rfl | rfl <;> exact ⟨by decide +kernel, by decide +kernel⟩
noncomputable def tySz : Nat → Nat
  | 0 => 40
  | k + 1 => 2 * tySz k + 120
theorem tySz_pos : ∀ k, 40 ≤ tySz k
  | 0 => Nat.le_refl _
  | k + 1 => by have := tySz_pos k; simp only [tySz]; omega
theorem sz_ty : ∀ (k : Nat) (t : Ty), drawnT [.none] k t → Sz (emb t) (tySz k)
  | k, .int, _ => (Sz.tup (.cons .str (.cons .str (.nil (k := 0))))).mono (by have := tySz_pos k; omega)
  | 0, .ref .., h => h.elim
  | 0, .box .., h => h.elim
  | 0, .arr .., h => h.elim
  | 0, .tup .., h => h.elim
  | 0, .adt .., h => h.elim
  | k + 1, .ref r _ t, h => by
    cases List.mem_singleton.mp h.1
    exact (Sz.tup (.cons .str (.cons .none (.cons .bool (.cons (sz_ty k t h.2) (.nil (k := 0))))))).mono (by have := tySz_pos k; simp only [tySz]; omega)
  | k + 1, .box t, h => (Sz.tup (.cons .str (.cons (sz_ty k t h) (.nil (k := 0))))).mono (by have := tySz_pos k; simp only [tySz]; omega)
  | k + 1, .tup a (.arr b), h => (Sz.tup (.cons .str (.cons (.tup (.cons (sz_ty k a h.1) (.cons (.tup (.cons .str (.cons (sz_ty k b h.2) (.cons .int (.nil (k := 0)))))) (.nil (k := 0))))) (.nil (k := 0))))).mono (by have := tySz_pos k; simp only [tySz]; omega)
  | k + 1, .adt r s t, h => by
    cases List.mem_singleton.mp h.1
    cases List.mem_singleton.mp h.2.1
    exact (Sz.tup (.cons .str (.cons .str (.cons (.tup (.cons .none (.cons .none (.nil (k := 0))))) (.cons (.tup (.cons (sz_ty k t h.2.2) (.nil (k := 0)))) (.nil (k := 0))))))).mono (by have := tySz_pos k; simp only [tySz]; omega)
  | _ + 1, .arr _, h => h.elim
  | _ + 1, .tup _ .int, h => h.elim
  | _ + 1, .tup _ (.ref ..), h => h.elim
  | _ + 1, .tup _ (.box ..), h => h.elim
  | _ + 1, .tup _ (.tup ..), h => h.elim
  | _ + 1, .tup _ (.adt ..), h => h.elim
theorem sz_dr {t : Ty} (h : drawnT [.none] 2 t) : Sz (emb t) 520 := sz_ty 2 t h
theorem sz_pl {i : Int} (h0 : 0 ≤ i := by decide) (h1 : i < 8 := by decide) : Sz (.tup [.int i, .tup []]) 40 := (Sz.tup (.cons (.int h0 h1) (.cons (.tup (.nil (k := 0))) (.nil (k := 0))))).mono (by omega)
theorem sz_op : ∀ {o : Op}, (drawnO o ∨ o = .copy 0) → Sz (embO o) 600
  | .copy i, h => by
    have : i = 1 ∨ i = 0 := by
      rcases h with h | h
      · exact .inl h
      · cases h; exact .inr rfl
    exact (Sz.tup (.cons .str (.cons (sz_pl (by omega) (by omega)) (.nil (k := 0))))).mono (by omega)
  | .move, _ => (Sz.tup (.cons .str (.cons (.tup (.cons .int (.cons (.tup (.cons (.tup (.cons .str (.nil (k := 0)))) (.nil (k := 0)))) (.nil (k := 0))))) (.nil (k := 0))))).mono (by omega)
  | .const t, h => (Sz.tup (.cons .str (.cons (sz_dr (h.resolve_right (by simp))) (.cons .int (.nil (k := 0)))))).mono (by omega)
theorem sz_rv : ∀ {v : Rv}, drawnR v → Sz (embR v) 3000
  | .ref r m p, h => by
    obtain ⟨rfl, h⟩ := h
    rcases h with ⟨rfl, rfl⟩ | ⟨rfl, rfl⟩
    · exact (Sz.tup (.cons .str (.cons .none (.cons .str (.cons (.tup (.cons .int (.cons (.tup (.cons (.tup (.cons .str (.cons .int (.nil (k := 0))))) (.nil (k := 0)))) (.nil (k := 0))))) (.nil (k := 0))))))).mono (by omega)
    · exact (Sz.tup (.cons .str (.cons .none (.cons .str (.cons sz_pl (.nil (k := 0))))))).mono (by omega)
  | .use o, h => (Sz.tup (.cons .str (.cons (sz_op (.inl h)) (.nil (k := 0))))).mono (by omega)
  | .box o, h => (Sz.tup (.cons .str (.cons (sz_op (.inl h)) (.nil (k := 0))))).mono (by omega)
  | .cast o t, h => (Sz.tup (.cons .str (.cons (sz_op (.inl h.1)) (.cons (sz_dr h.2) (.nil (k := 0)))))).mono (by omega)
  | .bin a b, h => by
    obtain ⟨h, rfl⟩ := h
    exact (Sz.tup (.cons .str (.cons .str (.cons (sz_op (.inl h)) (.cons (sz_op (.inl h)) (.nil (k := 0))))))).mono (by omega)
  | .tup os, h => by
    obtain ⟨o, h, rfl⟩ := h
    exact (Sz.tup (.cons .str (.cons (.tup (.cons (sz_op (.inl h)) (.cons (sz_op (.inr rfl)) (.nil (k := 0))))) (.nil (k := 0))))).mono (by omega)
  | .adt t os, h => by
    obtain ⟨s, o, rfl, hs, h, rfl⟩ := h
    have ht : Sz (emb (.adt .none .none s)) 1160 := sz_ty 3 (.adt .none .none s) ⟨.head _, .head _, hs⟩
    exact (Sz.tup (.cons .str (.cons ht (.cons .int (.cons (.tup (.cons (sz_op (.inl h)) (.cons (sz_op (.inl h)) (.nil (k := 0))))) (.nil (k := 0))))))).mono (by omega)
theorem sz_stm : ∀ {v : Stm}, drawnS v → Sz (embS v) 3200
  | .live, _ => (Sz.tup (.cons .str (.cons .int (.nil (k := 0))))).mono (by omega)
  | .assign v, h => (Sz.tup (.cons .str (.cons sz_pl (.cons (sz_rv h) (.nil (k := 0)))))).mono (by omega)
  | .print o, h => (Sz.tup (.cons .str (.cons (sz_op (.inl h)) (.nil (k := 0))))).mono (by omega)
theorem sz_tm {many : Int} (hm : many ≤ 3) : ∀ {v : Tm}, drawnE many v → Sz (embT v) 3200
  | .ret, _ => (Sz.tup (.cons .str (.nil (k := 0)))).mono (by omega)
  | .goto g, h => (Sz.tup (.cons .str (.cons (.int h.1 (by have := h.2; omega)) (.nil (k := 0))))).mono (by omega)
  | .callF ts os g, h => by
    obtain ⟨t, o, rfl, ht, rfl, ho, h0, h1⟩ := h
    exact (Sz.tup (.cons .str (.cons (.tup (.cons .str (.cons .str (.cons (.tup (.cons (sz_dr ht) (.nil (k := 0)))) (.nil (k := 0)))))) (.cons (.tup (.cons (sz_op (.inl ho)) (.nil (k := 0)))) (.cons sz_pl (.cons (.int h0 (by omega)) (.nil (k := 0)))))))).mono (by omega)
  | .callM t ts os g, h => by
    obtain ⟨o, rfl, ht, rfl, ho, h0, h1⟩ := h
    exact (Sz.tup (.cons .str (.cons (.tup (.cons .str (.cons .str (.cons .str (.cons (sz_dr ht) (.cons (.tup (.cons (sz_dr ht) (.nil (k := 0)))) (.nil (k := 0)))))))) (.cons (.tup (.cons (sz_op (.inl ho)) (.cons (sz_op (.inl ho)) (.nil (k := 0))))) (.cons sz_pl (.cons (.int h0 (by omega)) (.nil (k := 0)))))))).mono (by omega)
  | .switch o g, h => (Sz.tup (.cons .str (.cons (sz_op (.inl h.1)) (.cons (.tup (.cons (.tup (.cons .int (.cons (.int h.2.1 (by have := h.2.2; omega)) (.nil (k := 0))))) (.nil (k := 0)))) (.cons .int (.nil (k := 0))))))).mono (by omega)
  | .assert o g, h => (Sz.tup (.cons .str (.cons (sz_op (.inl h.1)) (.cons .bool (.cons .str (.cons (.int h.2.1 (by have := h.2.2; omega)) (.nil (k := 0)))))))).mono (by omega)
theorem sz_b {many : Int} (hm : many ≤ 3) {b : Bl} (h : drawnB many b) : Sz (embB b) 20000 := by
  have h1 : SzL (b.1.map embS) ((3200 + 2) * 5) := SzL.all (by rw [List.length_map]; exact h.2.1) fun d hd => by
    obtain ⟨s, hs, rfl⟩ := List.mem_map.mp hd
    exact sz_stm (h.1 s hs)
  exact (Sz.lst (.cons (.lst h1) (.cons (sz_tm hm h.2.2) (.nil (k := 0))))).mono (by omega)
theorem sz_body {many : Int} (hm : many ≤ 3) {rows : List Ty} {bls : List Bl} (hr : ∀ t ∈ rows, drawnT [.none] 3 t) (hz : rows.length ≤ 10) (hb : ∀ b ∈ bls, drawnB many b) (hzb : bls.length ≤ 10) : Sz (.lst [.lst (rows.map rowV), .lst (bls.map embB)]) 1000000 := by
  have h1 : SzL (rows.map rowV) ((1300 + 2) * 10) := SzL.all (by rw [List.length_map]; exact hz) fun d hd => by
    obtain ⟨t, ht, rfl⟩ := List.mem_map.mp hd
    have h3 : Sz (emb t) 1160 := sz_ty 3 t (hr t ht)
    exact (Sz.tup (.cons h3 (.cons .bool (.cons .none (.nil (k := 0)))))).mono (by omega)
  have h2 : SzL (bls.map embB) ((20000 + 2) * 10) := SzL.all (by rw [List.length_map]; exact hzb) fun d hd => by
    obtain ⟨t, ht, rfl⟩ := List.mem_map.mp hd
    exact sz_b hm (hb t ht)
  exact (Sz.lst (.cons (.lst h1) (.cons (.lst h2) (.nil (k := 0))))).mono (by omega)
end
section
set_option linter.all false
/-! how many numbers -/
theorem ofR_cnt {u : List (Str × AV)} {n : Int} {r : AV} : (ofR u n r).2 ≤ n + 1 := by
  cases r <;> (show _ ≤ _; simp only [ofR]; omega)
theorem ty_cnt {u : List (Str × AV)} : ∀ (t : Ty) (n : Int), (num u n t).2 ≤ n + (regsT t).length
  | .int, n => by show n ≤ n + 0; omega
  | .ref r m t, n => by
    have h := ty_cnt (u := u) t (ofR u n r).2
    have h2 := @ofR_cnt u n r
    show (num u (ofR u n r).2 t).2 ≤ n + ((regsT t).length + 1 : Nat)
    omega
  | .box t, n => ty_cnt t n
  | .arr t, n => ty_cnt t n
  | .tup a b, n => by
    have h := ty_cnt (u := u) a n
    have h2 := ty_cnt (u := u) b (num u n a).2
    show (num u (num u n a).2 b).2 ≤ n + ((regsT a ++ regsT b).length : Nat)
    rw [List.length_append]
    push_cast
    omega
  | .adt r s t, n => by
    have h := ty_cnt (u := u) t (ofR u (ofR u n r).2 s).2
    have h2 := @ofR_cnt u n r
    have h3 := @ofR_cnt u (ofR u n r).2 s
    rw [num_adt]
    show (num u _ t).2 ≤ n + ((regsT t).length + 1 + 1 : Nat)
    push_cast
    omega
noncomputable def rgSz : Nat → Nat
  | 0 => 0
  | k + 1 => 2 * rgSz k + 2
theorem drawn_cnt {names : List AV} : ∀ (k : Nat) (t : Ty), drawnT names k t → (regsT t).length ≤ rgSz k
  | _, .int, _ => Nat.zero_le _
  | 0, .ref .., h => h.elim
  | 0, .box .., h => h.elim
  | 0, .arr .., h => h.elim
  | 0, .tup .., h => h.elim
  | 0, .adt .., h => h.elim
  | k + 1, .ref r _ t, h => by have i := drawn_cnt k t h.2; show (regsT t).length + 1 ≤ 2 * rgSz k + 2; omega
  | k + 1, .box t, h => by have i := drawn_cnt k t h; show (regsT t).length ≤ 2 * rgSz k + 2; omega
  | k + 1, .tup a (.arr b), h => by
    have i := drawn_cnt k a h.1
    have j := drawn_cnt k b h.2
    show (regsT a ++ regsT b).length ≤ 2 * rgSz k + 2
    rw [List.length_append]; omega
  | k + 1, .adt r s t, h => by have i := drawn_cnt k t h.2.2; show (regsT t).length + 1 + 1 ≤ 2 * rgSz k + 2; omega
  | _ + 1, .arr _, h => h.elim
  | _ + 1, .tup _ .int, h => h.elim
  | _ + 1, .tup _ (.ref ..), h => h.elim
  | _ + 1, .tup _ (.box ..), h => h.elim
  | _ + 1, .tup _ (.tup ..), h => h.elim
  | _ + 1, .tup _ (.adt ..), h => h.elim
theorem dr_cnt {u : List (Str × AV)} {n : Int} {t : Ty} (h : drawnT [.none] 2 t) : (num u n t).2 ≤ n + 6 := by
  have := ty_cnt (u := u) t n
  have h2 : (regsT t).length ≤ 6 := drawn_cnt 2 t h
  omega
theorem op_cnt {u : List (Str × AV)} {n : Int} : ∀ {o : Op}, (drawnO o ∨ o = .copy 0) → (numO u n o).2 ≤ n + 6
  | .copy _, _ => by show n ≤ n + 6; omega
  | .move, _ => by show n ≤ n + 6; omega
  | .const t, h => dr_cnt (h.resolve_right (by simp))
theorem rv_cnt {u : List (Str × AV)} {n : Int} : ∀ {v : Rv}, drawnR v → (numR u n v).2 ≤ n + 20
  | .ref r m p, _ => by have := @ofR_cnt u n r; show (ofR u n r).2 ≤ _; omega
  | .use o, h => by have := op_cnt (u := u) (n := n) (.inl h : drawnO o ∨ _); show (numO u n o).2 ≤ _; omega
  | .box o, h => by have := op_cnt (u := u) (n := n) (.inl h : drawnO o ∨ _); show (numO u n o).2 ≤ _; omega
  | .cast o t, h => by
    have := op_cnt (u := u) (n := n) (.inl h.1 : drawnO o ∨ _)
    have := dr_cnt (u := u) (n := (numO u n o).2) h.2
    show (num u (numO u n o).2 t).2 ≤ _; omega
  | .bin a b, h => by
    have := op_cnt (u := u) (n := n) (.inl h.1 : drawnO a ∨ _)
    have := op_cnt (u := u) (n := (numO u n a).2) (.inl (h.2 ▸ h.1) : drawnO b ∨ _)
    show (numO u (numO u n a).2 b).2 ≤ _; omega
  | .tup os, h => by
    obtain ⟨o, h, rfl⟩ := h
    have := op_cnt (u := u) (n := n) (.inl h : drawnO o ∨ _)
    show (numO u n o).2 ≤ _; omega
  | .adt t os, h => by
    obtain ⟨s, o, rfl, hs, h, rfl⟩ := h
    have h1 : (num u n (.adt .none .none s)).2 ≤ n + 8 := by
      have := dr_cnt (u := u) (n := n + 1 + 1) hs
      show (num u (n + 1 + 1) s).2 ≤ _; omega
    show (numO u (numO u (num u n (.adt .none .none s)).2 o).2 o).2 ≤ _
    generalize (num u n (.adt .none .none s)).2 = m at h1 ⊢
    have := op_cnt (u := u) (n := m) (.inl h : drawnO o ∨ _)
    have := op_cnt (u := u) (n := (numO u m o).2) (.inl h : drawnO o ∨ _)
    omega
theorem stm_cnt {u : List (Str × AV)} {n : Int} : ∀ {v : Stm}, drawnS v → (numS u n v).2 ≤ n + 20
  | .live, _ => by show n ≤ n + 20; omega
  | .assign v, h => rv_cnt (v := v) h
  | .print o, h => by have := op_cnt (u := u) (n := n) (.inl h : drawnO o ∨ _); show (numO u n o).2 ≤ _; omega
theorem tm_cnt {u : List (Str × AV)} {n many : Int} : ∀ {v : Tm}, drawnE many v → (numT u n v).2 ≤ n + 24
  | .ret, _ => by show n ≤ n + 24; omega
  | .goto g, _ => by show n ≤ n + 24; omega
  | .callF ts os g, h => by
    obtain ⟨t, o, rfl, ht, rfl, ho, _⟩ := h
    have := op_cnt (u := u) (n := n) (.inl ho : drawnO o ∨ _)
    have := dr_cnt (u := u) (n := (numO u n o).2) ht
    show (num u (numO u n o).2 t).2 ≤ _; omega
  | .callM t ts os g, h => by
    obtain ⟨o, rfl, ht, rfl, ho, _⟩ := h
    have := op_cnt (u := u) (n := n) (.inl ho : drawnO o ∨ _)
    have := op_cnt (u := u) (n := (numO u n o).2) (.inl ho : drawnO o ∨ _)
    have := dr_cnt (u := u) (n := (numO u (numO u n o).2 o).2) ht
    have := dr_cnt (u := u) (n := (num u (numO u (numO u n o).2 o).2 t).2) ht
    show (num u (num u (numO u (numO u n o).2 o).2 t).2 t).2 ≤ _; omega
  | .switch o g, h => by have := op_cnt (u := u) (n := n) (.inl h.1 : drawnO o ∨ _); show (numO u n o).2 ≤ _; omega
  | .assert o g, h => by have := op_cnt (u := u) (n := n) (.inl h.1 : drawnO o ∨ _); show (numO u n o).2 ≤ _; omega
theorem stms_cnt {u : List (Str × AV)} : ∀ {vs : List Stm} {n : Int}, (∀ v ∈ vs, drawnS v) → (numSs u n vs).2 ≤ n + 20 * vs.length
  | [], n, _ => by show n ≤ n + 20 * (0 : Nat); omega
  | v :: vs, n, h => by
    have h1 := stm_cnt (u := u) (n := n) (h v (.head _))
    have h2 := stms_cnt (u := u) (n := (numS u n v).2) fun x hx => h x (.tail _ hx)
    show (numSs u (numS u n v).2 vs).2 ≤ n + 20 * ((vs.length + 1 : Nat) : Int)
    push_cast
    omega
theorem bs_cnt {u : List (Str × AV)} {many : Int} : ∀ {bs : List Bl} {n : Int}, (∀ b ∈ bs, drawnB many b) → (numBs u n bs).2 ≤ n + 124 * bs.length
  | [], n, _ => by show n ≤ n + 124 * (0 : Nat); omega
  | b :: bs, n, h => by
    obtain ⟨g1, g2, g3⟩ := h b (.head _)
    have h1 := stms_cnt (u := u) (n := n) g1
    have h2 := tm_cnt (u := u) (n := (numSs u n b.1).2) g3
    have h3 := bs_cnt (u := u) (n := (numB u n b).2) fun x hx => h x (.tail _ hx)
    show (numBs u (numB u n b).2 bs).2 ≤ n + 124 * ((bs.length + 1 : Nat) : Int)
    have e : (numB u n b).2 = (numT u (numSs u n b.1).2 b.2).2 := rfl
    push_cast
    omega
theorem tys_cnt {u : List (Str × AV)} {m : Nat} : ∀ {ts : List Ty} {n : Int}, (∀ t ∈ ts, (regsT t).length ≤ m) → (numL u n ts).2 ≤ n + m * ts.length
  | [], n, _ => by show n ≤ n + m * (0 : Nat); omega
  | t :: ts, n, h => by
    have h1 := ty_cnt (u := u) t n
    have h0 := h t (.head _)
    have h2 := tys_cnt (u := u) (n := (num u n t).2) fun x hx => h x (.tail _ hx)
    show (numL u (num u n t).2 ts).2 ≤ n + m * ((ts.length + 1 : Nat) : Int)
    push_cast
    rw [Int.mul_add, Int.mul_one]
    omega
theorem Fresh.len {l : List AV} {n m : Int} (h : Fresh l n m) : m = n + l.length := by
  obtain ⟨k, rfl, p⟩ := h
  rw [p.length_eq]; simp
/-- fresh numbers are ints, each once, in order n .. -/
theorem Fresh.ints {l : List AV} {n m : Int} (h : Fresh l n m) : ∃ is : List Int, l = is.map .int ∧ is.Nodup ∧ ∀ js : List Int, js.Perm is → js.Pairwise (· ≤ ·) → js = (List.range l.length).map fun (i : Nat) => n + (i : Int) := by
  obtain ⟨k, rfl, p⟩ := h
  have hk : l.length = k := by rw [p.length_eq]; simp
  obtain ⟨is, rfl⟩ : ∃ is : List Int, l = is.map .int := by
    have : ∀ x ∈ l, ∃ i, x = .int i := fun x hx => by
      obtain ⟨i, _, e⟩ := List.mem_map.mp (p.mem_iff.mp hx)
      exact ⟨_, e.symm⟩
    clear p hk
    induction l with
    | nil => exact ⟨[], rfl⟩
    | cons x l ih =>
      obtain ⟨is, rfl⟩ := ih fun y hy => this y (.tail _ hy)
      obtain ⟨i, rfl⟩ := this x (.head _)
      exact ⟨i :: is, rfl⟩
  have q : is.Perm ((List.range k).map fun (i : Nat) => n + (i : Int)) := by
    have e : (List.range k).map (fun (i : Nat) => AV.int (n + i)) = ((List.range k).map fun (i : Nat) => n + (i : Int)).map AV.int := by rw [List.map_map]; rfl
    rw [e] at p
    have := p.map (fun | AV.int i => i | _ => 0)
    simpa [List.map_map, Function.comp_def] using this
  have hs : ((List.range k).map fun (i : Nat) => n + (i : Int)).Pairwise (· < ·) := by
    rw [List.pairwise_map]
    exact List.pairwise_lt_range.imp fun h => by omega
  refine ⟨is, rfl, ?_, fun js hj hp => ?_⟩
  · exact q.nodup_iff.mpr (hs.imp fun h => by omega)
  · rw [hk]
    exact (hj.trans q).eq_of_pairwise (fun a b _ _ h1 h2 => Int.le_antisymm h1 h2) hp (hs.imp fun h => by omega)
end
section
set_option linter.all false
noncomputable abbrev sigNames : List AV := [.str "'a", .str "'b", .str "'static", .str "'_1"]
theorem drawn_mono {names : List AV} : ∀ (k : Nat) (t : Ty), drawnT names k t → drawnT names (k + 1) t
  | _, .int, _ => by trivial
  | 0, .ref .., h => h.elim
  | 0, .box .., h => h.elim
  | 0, .arr .., h => h.elim
  | 0, .tup .., h => h.elim
  | 0, .adt .., h => h.elim
  | k + 1, .ref r _ t, h => ⟨h.1, drawn_mono k t h.2⟩
  | k + 1, .box t, h => drawn_mono k t h
  | k + 1, .tup a (.arr b), h => ⟨drawn_mono k a h.1, drawn_mono k b h.2⟩
  | k + 1, .adt r s t, h => ⟨h.1, h.2.1, drawn_mono k t h.2.2⟩
  | _ + 1, .arr _, h => h.elim
  | _ + 1, .tup _ .int, h => h.elim
  | _ + 1, .tup _ (.ref ..), h => h.elim
  | _ + 1, .tup _ (.box ..), h => h.elim
  | _ + 1, .tup _ (.tup ..), h => h.elim
  | _ + 1, .tup _ (.adt ..), h => h.elim
theorem drawn_bare {names : List AV} : ∀ (k : Nat) (t : Ty), drawnT names k t → drawnT [.none] k (bareT t)
  | k, .int, _ => by cases k <;> trivial
  | 0, .ref .., h => h.elim
  | 0, .box .., h => h.elim
  | 0, .arr .., h => h.elim
  | 0, .tup .., h => h.elim
  | 0, .adt .., h => h.elim
  | k + 1, .ref r _ t, h => ⟨.head _, drawn_bare k t h.2⟩
  | k + 1, .box t, h => drawn_bare k t h
  | k + 1, .tup a (.arr b), h => ⟨drawn_bare k a h.1, drawn_bare k b h.2⟩
  | k + 1, .adt r s t, h => ⟨.head _, .head _, drawn_bare k t h.2.2⟩
  | _ + 1, .arr _, h => h.elim
  | _ + 1, .tup _ .int, h => h.elim
  | _ + 1, .tup _ (.ref ..), h => h.elim
  | _ + 1, .tup _ (.box ..), h => h.elim
  | _ + 1, .tup _ (.tup ..), h => h.elim
  | _ + 1, .tup _ (.adt ..), h => h.elim
/-- what the law has drawn -/
structure Dr (o a b : Ty) (ex : List Ty) (bls : List Bl) (many : Int) : Prop where
  dO : drawnT sigNames 3 o
  dA : drawnT sigNames 2 a
  dB : drawnT sigNames 2 b
  dE : ∀ t ∈ ex, drawnT [.none] 3 t
  exl : ex.length ≤ 2
  bl : ∀ x ∈ bls, drawnB many x
  bll : bls.length ≤ 3
  many : many ≤ 3
noncomputable abbrev rowsOf (o a b : Ty) (ex : List Ty) : List Ty := bareT o :: bareT a :: bareT b :: ex
noncomputable def sgOk (o a b : Ty) (sg : SigO) : Prop := sg = none ∨ ∃ sx, sg = some (sx, a, b, o)
variable {o a b : Ty} {ex : List Ty} {bls : List Bl} {many : Int} {sg : SigO}
theorem Dr.rows (D : Dr o a b ex bls many) : ∀ t ∈ rowsOf o a b ex, drawnT [.none] 3 t := by
  intro t ht
  rcases List.mem_cons.mp ht with rfl | ht
  · exact drawn_bare _ _ D.dO
  rcases List.mem_cons.mp ht with rfl | ht
  · exact drawn_mono _ _ (drawn_bare _ _ D.dA)
  rcases List.mem_cons.mp ht with rfl | ht
  · exact drawn_mono _ _ (drawn_bare _ _ D.dB)
  · exact D.dE t ht
theorem Dr.names (D : Dr o a b ex bls many) : ∀ t ∈ [o, a, b], dep t ≤ 6 ∧ ∀ r ∈ regsT t, r ∈ sigNames := by
  intro t ht
  rcases List.mem_cons.mp ht with rfl | ht
  · exact drawn_ty _ _ D.dO
  rcases List.mem_cons.mp ht with rfl | ht
  · have := drawn_ty _ _ D.dA; exact ⟨by omega, this.2⟩
  cases List.mem_singleton.mp ht
  have := drawn_ty _ _ D.dB; exact ⟨by omega, this.2⟩
theorem name_good {r : AV} (h : r ∈ sigNames) : ∃ x i, r = .str x ∧ fullU.lookup x = some (.int i) := by
  simp only [List.mem_cons, List.not_mem_nil, or_false] at h
  rcases h with rfl | rfl | rfl | rfl
  · exact ⟨_, 1, rfl, by with_unfolding_all rfl⟩
  · exact ⟨_, 2, rfl, by with_unfolding_all rfl⟩
  · exact ⟨_, 0, rfl, by with_unfolding_all rfl⟩
  · exact ⟨_, 3, rfl, by with_unfolding_all rfl⟩
theorem name_wf {r : AV} (h : r ∈ sigNames) : wfA r = true := by
  simp only [List.mem_cons, List.not_mem_nil, or_false] at h
  rcases h with rfl | rfl | rfl | rfl <;> decide +kernel
theorem none_good {u : List (Str × AV)} {t : Ty} (h : noneT t) : goodT u t := good_ty t fun r hr => .inl (h r hr)
theorem dr_good {u : List (Str × AV)} {t : Ty} (h : drawnT [.none] 2 t) : goodT u t ∧ dep t < 7 := ⟨none_good (drawn_none h).1, by have := (drawn_none h).2; omega⟩
theorem op_good {u : List (Str × AV)} : ∀ {o : Op}, (drawnO o ∨ o = .copy 0) → goodO u 7 o
  | .copy _, _ => trivial
  | .move, _ => trivial
  | .const t, h => dr_good (h.resolve_right (by simp))
theorem rv_good {u : List (Str × AV)} : ∀ {v : Rv}, drawnR v → goodRv u 7 v
  | .ref r m p, h => .inl h.1
  | .use o, h => op_good (.inl h)
  | .box o, h => op_good (.inl h)
  | .cast o t, h => ⟨op_good (.inl h.1), dr_good h.2⟩
  | .bin a b, h => ⟨op_good (.inl h.1), op_good (.inl (h.2 ▸ h.1))⟩
  | .tup os, h => by
    obtain ⟨o, h, rfl⟩ := h
    refine ⟨fun x hx => ?_, by simp⟩
    rcases List.mem_cons.mp hx with rfl | hx
    · exact op_good (.inl h)
    · cases List.mem_singleton.mp hx; exact op_good (.inr rfl)
  | .adt t os, h => by
    obtain ⟨s, o, rfl, hs, h, rfl⟩ := h
    refine ⟨⟨⟨.inl rfl, .inl rfl, (dr_good hs).1⟩, ?_⟩, fun x hx => ?_, by simp⟩
    · have := (drawn_none hs).2; simp only [dep]; omega
    · have : x = o := by simpa using hx
      subst this
      exact op_good (.inl h)
theorem tm_good {u : List (Str × AV)} {many : Int} : ∀ {v : Tm}, drawnE many v → goodTm u 7 v
  | .ret, _ => trivial
  | .goto _, _ => trivial
  | .callF ts os g, h => by
    obtain ⟨t, o, rfl, ht, rfl, ho, _⟩ := h
    refine ⟨⟨fun x hx => ?_, by simp⟩, fun x hx => ?_, by simp⟩
    · cases List.mem_singleton.mp hx; exact (dr_good ht).symm
    · cases List.mem_singleton.mp hx; exact op_good (.inl ho)
  | .callM t ts os g, h => by
    obtain ⟨o, rfl, ht, rfl, ho, _⟩ := h
    refine ⟨dr_good ht, ⟨fun x hx => ?_, by simp⟩, fun x hx => ?_, by simp⟩
    · cases List.mem_singleton.mp hx; exact (dr_good ht).symm
    · have : x = o := by simpa using hx
      subst this
      exact op_good (.inl ho)
  | .switch o g, h => op_good (.inl h.1)
  | .assert o g, h => op_good (.inl h.1)
theorem Dr.goodB (D : Dr o a b ex bls many) {u : List (Str × AV)} : ∀ x ∈ bls, Mine.goodB u 7 x := fun x hx => by
  obtain ⟨h1, h2, h3⟩ := D.bl x hx
  refine ⟨fun s hs => ?_, by omega, tm_good h3⟩
  have := h1 s hs
  cases s with
  | live => trivial
  | assign v => exact rv_good this
  | print o => exact op_good (.inl this)
theorem drawn3 {t : Ty} (h : drawnT [.none] 3 t) : noneT t ∧ dep t ≤ 6 := drawn_none (k := 3) h
theorem Dr.told (D : Dr o a b ex bls many) (S : sgOk o a b sg) : ∀ t ∈ toldTys (rowsOf o a b ex) sg, dep t < 7 ∧ goodT (uOf sg) t := by
  intro t ht
  rcases S with rfl | ⟨sx, rfl⟩
  · have := drawn3 (D.rows t ht)
    exact ⟨by omega, none_good this.1⟩
  · rcases List.mem_append.mp ht with ht | ht
    · have := D.names t ht
      exact ⟨by omega, good_ty t fun r hr => .inr (name_good (this.2 r hr))⟩
    · have := drawn3 (D.dE t ht)
      exact ⟨by omega, none_good this.1⟩
theorem numL_bare {u : List (Str × AV)} : ∀ (ts : List Ty) (n : Int), (numL u n ts).1.map bareT = ts.map bareT
  | [], _ => rfl
  | t :: ts, n => by show bareT (num u n t).1 :: (numL u (num u n t).2 ts).1.map bareT = _; rw [bareT_num, numL_bare]; rfl
theorem numL_dep {u : List (Str × AV)} {d : Nat} : ∀ (ts : List Ty) (n : Int), (∀ t ∈ ts, dep t ≤ d) → ∀ t ∈ (numL u n ts).1, dep t ≤ d
  | [], _, _, _, h => nomatch h
  | t :: ts, n, h, x, hx => by
    rcases List.mem_cons.mp hx with rfl | hx
    · rw [dep_num]; exact h t (.head _)
    · exact numL_dep ts _ (fun y hy => h y (.tail _ hy)) x hx
theorem Dr.toldDep (D : Dr o a b ex bls many) (S : sgOk o a b sg) : ∀ t ∈ toldTys (rowsOf o a b ex) sg, dep t ≤ 6 := fun t ht => Nat.le_of_lt_succ (D.told S t ht).1
theorem map_bare_none : ∀ (ts : List Ty), (∀ t ∈ ts, noneT t) → ts.map bareT = ts
  | [], _ => rfl
  | t :: ts, h => by rw [List.map_cons, bare_none t (h t (.head _)), map_bare_none ts fun x hx => h x (.tail _ hx)]
theorem Dr.toldBare (D : Dr o a b ex bls many) (S : sgOk o a b sg) : (toldTys (rowsOf o a b ex) sg).map bareT = rowsOf o a b ex := by
  rcases S with rfl | ⟨sx, rfl⟩
  · exact map_bare_none _ fun t ht => (drawn3 (D.rows t ht)).1
  · show bareT o :: bareT a :: bareT b :: ex.map bareT = _
    rw [map_bare_none ex fun t ht => (drawn3 (D.dE t ht)).1]
theorem numL_app {u : List (Str × AV)} : ∀ (xs ys : List Ty) (n : Int), numL u n (xs ++ ys) = ((numL u n xs).1 ++ (numL u (numL u n xs).2 ys).1, (numL u (numL u n xs).2 ys).2)
  | [], _, _ => rfl
  | x :: xs, ys, n => by
    show ((num u n x).1 :: (numL u (num u n x).2 (xs ++ ys)).1, (numL u (num u n x).2 (xs ++ ys)).2) = _
    rw [numL_app]; rfl
/-- a name's number -/
noncomputable def look (r : AV) : AV := match r with
  | .str x => (fullU.lookup x).getD .none
  | _ => .none
theorem num_named : ∀ (t : Ty) (n : Int), (∀ r ∈ regsT t, r ∈ sigNames) → (num fullU n t).2 = n ∧ regsT (num fullU n t).1 = (regsT t).map look
  | .int, n, _ => ⟨rfl, rfl⟩
  | .ref r m t, n, h => by
    obtain ⟨x, i, rfl, hx⟩ := name_good (h r (.head _))
    have := num_named t n fun y hy => h y (.tail _ hy)
    exact ⟨this.1, by show _ :: regsT (num fullU n t).1 = _; rw [this.2]; rfl⟩
  | .box t, n, h => num_named t n h
  | .arr t, n, h => num_named t n h
  | .tup a b, n, h => by
    have h1 := num_named a n fun y hy => h y (List.mem_append_left _ hy)
    have h2 := num_named b n fun y hy => h y (List.mem_append_right _ hy)
    refine ⟨?_, ?_⟩
    · show (num fullU (num fullU n a).2 b).2 = n
      rw [h1.1, h2.1]
    · show regsT (num fullU n a).1 ++ regsT (num fullU (num fullU n a).2 b).1 = (regsT a ++ regsT b).map look
      rw [h1.1, h1.2, h2.2, List.map_append]
  | .adt r s t, n, h => by
    obtain ⟨x, i, rfl, hx⟩ := name_good (h r (.head _))
    obtain ⟨y, j, rfl, hy⟩ := name_good (h s (.tail _ (.head _)))
    have := num_named t n fun y hy => h y (.tail _ (.tail _ hy))
    refine ⟨?_, ?_⟩
    · rw [num_adt]; exact this.1
    · rw [num_adt]; show _ :: _ :: regsT (num fullU n t).1 = _; rw [this.2]; rfl
theorem numL_named : ∀ (ts : List Ty) (n : Int), (∀ t ∈ ts, ∀ r ∈ regsT t, r ∈ sigNames) → (numL fullU n ts).2 = n ∧ (numL fullU n ts).1.flatMap regsT = (ts.flatMap regsT).map look
  | [], n, _ => ⟨rfl, rfl⟩
  | t :: ts, n, h => by
    have h1 := num_named t n (h t (.head _))
    have h2 := numL_named ts n fun x hx => h x (.tail _ hx)
    refine ⟨?_, ?_⟩
    · show (numL fullU (num fullU n t).2 ts).2 = n
      rw [h1.1, h2.1]
    · show regsT (num fullU n t).1 ++ (numL fullU (num fullU n t).2 ts).1.flatMap regsT = (regsT t ++ ts.flatMap regsT).map look
      rw [h1.1, h1.2, h2.2, List.map_append]
theorem fresh_tys {u : List (Str × AV)} : ∀ (ts : List Ty) (n : Int), (∀ t ∈ ts, noneT t) → Fresh ((numL u n ts).1.flatMap regsT) n (numL u n ts).2
  | [], _, _ => .nil
  | t :: ts, n, h => Fresh.app (fresh_ty t n (h t (.head _))) (fresh_tys ts _ fun x hx => h x (.tail _ hx))
noncomputable def kOf : SigO → Nat
  | none => 0
  | some _ => 3
/-- the locals' fresh regions -/
theorem Dr.freeL (D : Dr o a b ex bls many) (S : sgOk o a b sg) : Fresh (((numL (uOf sg) (nOf sg) (toldTys (rowsOf o a b ex) sg)).1.drop (kOf sg)).flatMap regsT) (nOf sg) (numL (uOf sg) (nOf sg) (toldTys (rowsOf o a b ex) sg)).2 := by
  rcases S with rfl | ⟨sx, rfl⟩
  · exact fresh_tys _ _ fun t ht => (drawn3 (D.rows t ht)).1
  · show Fresh (((numL fullU 4 ([o, a, b] ++ ex)).1.drop 3).flatMap regsT) 4 (numL fullU 4 ([o, a, b] ++ ex)).2
    have h := numL_named [o, a, b] 4 fun t ht => (D.names t ht).2
    rw [numL_app, h.1]
    have e : (numL fullU 4 [o, a, b]).1.length = 3 := numL_length
    rw [List.drop_append_of_le_length (by omega), List.drop_of_length_le (by omega)]
    exact fresh_tys _ _ fun t ht => (drawn3 (D.dE t ht)).1
/-- the signature's types, numbered -/
theorem Dr.named (D : Dr o a b ex bls many) {sx : Addr} : ((numL fullU 4 (toldTys (rowsOf o a b ex) (some (sx, a, b, o)))).1.take 3).flatMap regsT = ([o, a, b].flatMap regsT).map look := by
  show ((numL fullU 4 ([o, a, b] ++ ex)).1.take 3).flatMap regsT = _
  have h := numL_named [o, a, b] 4 fun t ht => (D.names t ht).2
  rw [numL_app, h.1]
  have e : (numL fullU 4 [o, a, b]).1.length = 3 := numL_length
  rw [List.take_append_of_le_length (by omega), List.take_of_length_le (by omega), h.2]
/-- the regions of the numbered locals: numbers -/
theorem ofR_int {u : List (Str × AV)} {n : Int} {r : AV} (h : goodR u r) : ∃ i, (ofR u n r).1 = .int i := by
  rcases h with rfl | ⟨x, i, rfl, hx⟩
  · exact ⟨n, rfl⟩
  · exact ⟨i, by simp only [ofR, hx, Option.getD_some]⟩
theorem num_int {u : List (Str × AV)} : ∀ (t : Ty) (n : Int), goodT u t → ∀ r ∈ regsT (num u n t).1, ∃ i, r = .int i
  | .int, _, _, _, h => nomatch h
  | .ref r m t, n, h, x, hx => by
    rcases List.mem_cons.mp hx with rfl | hx
    · exact ofR_int h.1
    · exact num_int t _ h.2 x hx
  | .box t, n, h, x, hx => num_int t _ h x hx
  | .arr t, n, h, x, hx => num_int t _ h x hx
  | .tup a b, n, h, x, hx => by
    rcases List.mem_append.mp hx with hx | hx
    · exact num_int a _ h.1 x hx
    · exact num_int b _ h.2 x hx
  | .adt r s t, n, h, x, hx => by
    rw [num_adt] at hx
    rcases List.mem_cons.mp hx with rfl | hx
    · exact ofR_int h.1
    rcases List.mem_cons.mp hx with rfl | hx
    · exact ofR_int h.2.1
    · exact num_int t _ h.2.2 x hx
theorem numL_int {u : List (Str × AV)} : ∀ (ts : List Ty) (n : Int), (∀ t ∈ ts, goodT u t) → ∀ t ∈ (numL u n ts).1, ∀ r ∈ regsT t, ∃ i, r = .int i
  | [], _, _, _, h => nomatch h
  | t :: ts, n, h, x, hx => by
    rcases List.mem_cons.mp hx with rfl | hx
    · exact num_int t n (h t (.head _))
    · exact numL_int ts _ (fun y hy => h y (.tail _ hy)) x hx
theorem Dr.wfT (D : Dr o a b ex bls many) (S : sgOk o a b sg) {n : Int} : ∀ t ∈ (numL (uOf sg) n (toldTys (rowsOf o a b ex) sg)).1, wfV 20 (emb t) = true ∧ regsV 20 (emb t) = regsT t ∧ bareV 20 (emb t) = emb (bareT t) := fun t ht => by
  have hd := numL_dep _ _ (D.toldDep S) t ht
  refine ⟨wf_ty t 20 (by omega) fun r hr => ?_, regs_ty t 20 (by omega), bare_ty t 20 (by omega)⟩
  obtain ⟨i, rfl⟩ := numL_int _ _ (fun t ht => (D.told S t ht).2) t ht r hr
  rfl
theorem Dr.wfS (D : Dr o a b ex bls many) : ∀ t ∈ [o, a, b], wfV 20 (emb t) = true ∧ regsV 20 (emb t) = regsT t ∧ bareV 20 (emb t) = emb (bareT t) := fun t ht => by
  have hd := D.names t ht
  exact ⟨wf_ty t 20 (by omega) fun r hr => name_wf (hd.2 r hr), regs_ty t 20 (by omega), bare_ty t 20 (by omega)⟩
theorem Dr.regsLen (D : Dr o a b ex bls many) : ∀ t ∈ toldTys (rowsOf o a b ex) sg, sgOk o a b sg → (regsT t).length ≤ 14 := fun t ht S => by
  have h3 : ∀ {names : List AV} {t : Ty}, drawnT names 3 t → (regsT t).length ≤ 14 := fun h => drawn_cnt 3 _ h
  rcases S with rfl | ⟨sx, rfl⟩
  · exact h3 (D.rows t ht)
  · rcases List.mem_append.mp ht with ht | ht
    · rcases List.mem_cons.mp ht with rfl | ht
      · exact h3 D.dO
      rcases List.mem_cons.mp ht with rfl | ht
      · exact h3 (drawn_mono _ _ D.dA)
      · cases List.mem_singleton.mp ht; exact h3 (drawn_mono _ _ D.dB)
    · exact h3 (D.dE t ht)
theorem num_regsLen {u : List (Str × AV)} : ∀ (t : Ty) (n : Int), (regsT (num u n t).1).length = (regsT t).length
  | .int, _ => rfl
  | .ref r m t, n => by show (regsT (num u _ t).1).length + 1 = _; rw [num_regsLen t]; rfl
  | .box t, n => num_regsLen t n
  | .arr t, n => num_regsLen t n
  | .tup a b, n => by show (regsT (num u n a).1 ++ regsT (num u _ b).1).length = (regsT a ++ regsT b).length; rw [List.length_append, List.length_append, num_regsLen a, num_regsLen b]
  | .adt r s t, n => by rw [num_adt]; show (regsT (num u _ t).1).length + 1 + 1 = _; rw [num_regsLen t]; rfl
theorem numL_regsLen {u : List (Str × AV)} {m : Nat} : ∀ (ts : List Ty) (n : Int), (∀ t ∈ ts, (regsT t).length ≤ m) → ∀ t ∈ (numL u n ts).1, (regsT t).length ≤ m
  | [], _, _, _, h => nomatch h
  | t :: ts, n, h, x, hx => by
    rcases List.mem_cons.mp hx with rfl | hx
    · rw [num_regsLen]; exact h t (.head _)
    · exact numL_regsLen ts _ (fun y hy => h y (.tail _ hy)) x hx
theorem flat_len {α β : Type} {f : α → List β} {m : Nat} : ∀ (l : List α), (∀ x ∈ l, (f x).length ≤ m) → (l.flatMap f).length ≤ m * l.length
  | [], _ => by simp
  | x :: l, h => by
    have h1 := h x (.head _)
    have h2 := flat_len l fun y hy => h y (.tail _ hy)
    rw [List.flatMap_cons, List.length_append, List.length_cons, Nat.mul_add, Nat.mul_one]
    omega
theorem Dr.toldLen (D : Dr o a b ex bls many) (S : sgOk o a b sg) : (toldTys (rowsOf o a b ex) sg).length ≤ 5 ∧ 3 ≤ (toldTys (rowsOf o a b ex) sg).length := by
  have := D.exl
  rcases S with rfl | ⟨sx, rfl⟩
  · show (ex.length + 1 + 1 + 1) ≤ 5 ∧ 3 ≤ ex.length + 1 + 1 + 1
    omega
  · show (ex.length + 1 + 1 + 1) ≤ 5 ∧ 3 ≤ ex.length + 1 + 1 + 1
    omega
/-- the blocks, numbered -/
theorem Dr.gdB (D : Dr o a b ex bls many) {u : List (Str × AV)} {n : Int} : ∃ l, Nm 17 (.lst (bls.map embB)) (.lst ((numBs u n bls).1.map embB)) l ∧ Fresh l n (numBs u n bls).2 ∧ l.length ≤ 372 := by
  obtain ⟨l, h1, h2⟩ := Gd.lst (gd_bs (u := u) (n := n) D.bl) (by rw [List.length_map]; have := D.bll; omega)
  refine ⟨l, h1, h2, ?_⟩
  have h3 := bs_cnt (u := u) (n := n) D.bl
  have h4 := h2.len
  have := D.bll
  omega
end
section
set_option linter.all false
variable {c : Cx} {A : Around} {env : Env} {H : HL} {K : AV → HL → Prop}
theorem ac_len_dct {a : Addr} {l : List (Str × AV)} (hm : (a, MO.dct l) ∈ H) (hz : l.length ≤ 1000) (k : K (.int l.length) H) : AC c A (.blt "len") [.adr a] H K := AC.of1 fun s fv x E Q I hf va P => by
  cases hf
  cases va
  obtain ⟨kvs, hd, hb, hk⟩ := dct_open (prog := c.prog) (I.ok _ hm)
  have e := bindV_length hb
  refine call_len_dict (I.notMod hm) hd (by omega) ?_
  rw [e]
  exact P.tok (d := .int _) I ⟨_, rfl⟩ k
theorem vl_items {h : Heap} {D : List Addr} : ∀ {vs : List Value} {f : Nat → Int}, (∀ (j : Nat) (v : Value), vs[j]? = some v → ∃ t, v = .int (f j) t) → VL h D ((List.range vs.length).map fun (i : Nat) => AV.int (f i)) vs
  | [], f, _ => rfl
  | v :: vs, f, h => by
    rw [List.length_cons, List.range_succ_eq_map, List.map_cons, List.map_map]
    exact ⟨v, vs, rfl, h 0 v rfl, vl_items (f := fun i => f (i + 1)) fun j v' hj => h (j + 1) v' hj⟩
theorem ac_list_rng {a : Int} {n : Nat} (ha : 0 ≤ a) (ha' : a ≤ 1000) (hn : n ≤ 10000) (hh : A.handled = none) (k : K (.lst ((List.range n).map fun (i : Nat) => .int (a + i))) H) : AC c A (.typ "list") [.rng a (a + n)] H K := AC.of1 fun s fv x E Q I hf va P => by
  cases hf
  obtain ⟨r, t, u, w, rfl, hx, e⟩ := va
  have hz : Builtin.Range.rangeSize a (a + n) 1 = (n : Nat) := by
    rw [rangeSize_one]
    split <;> omega
  refine call_list_range hh e (small_one (by omega) (by omega) (by omega) (by omega)) hz (by omega) fun h' tk acc' c' hk hl hi => ?_
  have g := I.grow (h' := h') (t := tk) hk
  refine P _ _ (.lst ((List.range n).map fun (i : Nat) => .int (a + i))) _ g.1 g.2 ⟨_, acc'.toList, c', rfl, fun m => ?_, by simpa using hl, ?_⟩ k
  · obtain ⟨p, hp, q⟩ := List.mem_map.mp m
    obtain ⟨o, q'⟩ := (I.ok p hp).here
    exact Nat.lt_irrefl _ (q ▸ Heap.lt_size q')
  · have e1 : acc'.toList.length = n := by simpa using hi.1
    rw [← e1]
    refine vl_items fun j v hj => ?_
    obtain ⟨t, rfl⟩ := hi.2 j v (by simpa using hj)
    exact ⟨t, by rw [Int.mul_one]⟩
end
section
set_option linter.all false
/-- the law's cells and names -/
noncomputable abbrev lawF (L : Addr) (ns : List (Str × AV)) (due src : Option AV) : HL := [(L, .ns ns), (L + 2, .cell due), (L + 1, .cell src)]
/-- the law's statements from the n-th on -/
noncomputable abbrev Law (c : Cx) (A : Around) (L : Addr) (n : Nat) (H : HL) : Prop := ∀ body, (fdOf c.K 335).body = .stmts body → ASs c A (fenv c 335 L) (body.drop n) H (fun _ => False) (fun d _ => d = .bool true)
open PySem.F in
theorem lawA {c : Cx} {A : Around} {sc : List Int} {L : Addr} (R' : Room 100 A) (hz : sc.length ≤ 1000) (hl : ∀ n ∈ sc, n.natAbs.log2 < 2 ^ 21)
    (kk : ∀ sa sx wx a1 a2 a3 a4 a5 a6 o a b sg, drawnT sigNames 3 o → drawnT sigNames 2 a → drawnT sigNames 2 b → (sg = none ∨ sg = some (sx, a, b, o)) →
      Law c A L 5 ([(sx, .dct (sigL a b o)), (wx, .dct (worldL a1 a2 a3 a4 a5 a6)), (a3, .dct (sigsL sg)), (sa, .src)] ++ lawF L [("sig", .obj 226 sx), ("names", .lst sigNames), ("world", .obj 255 wx), ("script", .scr sc)] none (some (.adr sa)))) :
    Law c A L 0 (lawF L [("script", .scr sc)] none none) := by
  intro body hb
  have hb0 := hb
  cases hb
  refine s_cons ?_
  refine s_if ?_
  refine t_not ?_
  refine t_of ?_
  fin_run
  refine fixed_ok (R'.mono (by omega)) ?_
  fin_run
  refine s_pair R'.handled ?_
  fin_run
  refine pool_ok hz hl (R'.mono (by omega)) fun sa => ?_
  fin_run
  refine ac_class (k := 1) (R'.mono (by omega)) (c_World _) (c_World' _) (c_World'' _) fun wx A'' R'' => ?_
  refine worldInit_ok R'' fun a1 a2 a3 a4 a5 a6 => ⟨rfl, ?_⟩
  fin_run
  refine ⟨_, _, rfl, ?_⟩
  refine st_cell (d₀ := none) (pre := [_, _, _, _, _]) (by kernel_rfl) (by kernel_rfl) (by kernel_rfl) ?_
  refine st_local (pre := [_, _, _]) (by kernel_rfl) (by kernel_rfl) ?_
  fin_run
  refine e_list ?_
  fin_run
  refine st_local (pre := [_, _, _]) (by kernel_rfl) (by kernel_rfl) ?_
  fin_run
  refine sig_ok (by simp) (by simp) (by with_unfolding_all krn_off) (R'.mono (by omega)) fun sx a b o ha hb ho => ?_
  refine st_local (pre := [_, _, _, _]) (by kernel_rfl) (by kernel_rfl) ?_
  fin_run
  refine take_ok (by with_unfolding_all krn_off) (by decide) (by decide) (R'.mono (by omega)) fun d h0 h1 => ?_
  fin_run
  refine ⟨_, rfl, fun _ => ?_, fun _ => ?_⟩
  · refine s_cons ?_
    refine s_setkey ?_
    fin_run
    refine e_attr ?_
    fin_run
    refine attK2 (l := worldL a1 a2 a3 a4 a5 a6) (e := .adr a3) (.tail _ (.head _)) rfl rfl (a_sigs _) ?_
    fin_run
    refine ⟨a3, [], "f", [_, _], _, rfl, rfl, rfl, by simp, ?_⟩
    rw [show putA "f" (.obj 226 sx) ([] : List (Str × AV)) = sigsL (some (sx, a, b, o)) from by kernel_rfl]
    refine s_nil ?_
    exact kk sa sx wx a1 a2 a3 a4 a5 a6 o a b (some (sx, a, b, o)) ho ha hb (.inr rfl) _ hb0
  · refine s_nil ?_
    exact kk sa sx wx a1 a2 a3 a4 a5 a6 o a b none ho ha hb (.inl rfl) _ hb0
end
section
set_option linter.all false
/-- the objects of the law -/
noncomputable abbrev lawO (sa sx wx a1 a2 a3 a4 a5 a6 : Addr) (o a b : Ty) (sg : SigO) : HL := [(sx, .dct (sigL a b o)), (wx, .dct (worldL a1 a2 a3 a4 a5 a6)), (a3, .dct (sigsL sg)), (sa, .src)]
noncomputable abbrev ns0 (sx wx : Addr) (sc : List Int) : List (Str × AV) := [("sig", .obj 226 sx), ("names", .lst sigNames), ("world", .obj 255 wx), ("script", .scr sc)]
theorem lookup_dup {k x : Str} {v w : AV} {l : List (Str × AV)} : ((k, v) :: (k, w) :: l).lookup x = ((k, v) :: l).lookup x := by
  simp only [List.lookup_cons]
  cases x == k <;> rfl
theorem mapc_drawn {xs : List AV} {P : Ty → Prop} (h : ∀ x ∈ xs, ∃ t, P t ∧ x = emb t) : ∃ ts : List Ty, xs = ts.map emb ∧ ∀ t ∈ ts, P t := by
  induction xs with
  | nil => exact ⟨[], rfl, fun _ h => nomatch h⟩
  | cons x xs ih =>
    obtain ⟨ts, rfl, h2⟩ := ih fun y hy => h y (.tail _ hy)
    obtain ⟨t, ht, rfl⟩ := h x (.head _)
    exact ⟨t :: ts, rfl, fun y hy => by rcases List.mem_cons.mp hy with rfl | hy; exact ht; exact h2 y hy⟩
open PySem.F in
theorem lawB {c : Cx} {A : Around} {sc : List Int} {L sa sx wx a1 a2 a3 a4 a5 a6 : Addr} {o a b : Ty} {sg : SigO} (R' : Room 100 A) (ho : drawnT sigNames 3 o) (ha : drawnT sigNames 2 a) (hb' : drawnT sigNames 2 b)
    (kk : ∀ ex, (∀ t ∈ ex, drawnT [.none] 3 t) → ex.length ≤ 2 → Law c A L 7 (lawO sa sx wx a1 a2 a3 a4 a5 a6 o a b sg ++ lawF L (("kinds", .lst ((rowsOf o a b ex).map emb)) :: ns0 sx wx sc) none (some (.adr sa)))) :
    Law c A L 5 (lawO sa sx wx a1 a2 a3 a4 a5 a6 o a b sg ++ lawF L (ns0 sx wx sc) none (some (.adr sa))) := by
  intro body hb
  have hb0 := hb
  cases hb
  have D : Dr o a b [] [] 0 := ⟨ho, ha, hb', (fun _ h => nomatch h), by simp, (fun _ h => nomatch h), by simp, by simp⟩
  refine s_cut (fun H₁ => H₁ = lawO sa sx wx a1 a2 a3 a4 a5 a6 o a b sg ++ lawF L (("kinds", .lst ([bareT o, bareT a, bareT b].map emb)) :: ns0 sx wx sc) none (some (.adr sa))) ?_ ?_
  · refine s_assign ?_
    refine e_list ?_
    fin_run
    refine e_attr ?_
    fin_run
    refine ⟨226, sx, sigL a b o, emb o, rfl, .head _, rfl, handed_emb, a_output _, ?_⟩
    fin_run
    have wO := D.wfS o (.head _)
    refine bare_ok 20 _ _ _ _ wO.1 (by omega) (R'.mono (by omega)) ?_
    rw [wO.2.2]
    fin_run
    refine e_attr ?_
    fin_run
    refine attK2 (l := sigL a b o) (e := .tup [emb a, emb b]) (.head _) rfl rfl (a_inputs _) ?_
    fin_run
    have wA := D.wfS a (.tail _ (.head _))
    refine bare_ok 20 _ _ _ _ wA.1 (by omega) (R'.mono (by omega)) ?_
    rw [wA.2.2]
    fin_run
    refine e_attr ?_
    fin_run
    refine attK2 (l := sigL a b o) (e := .tup [emb a, emb b]) (.head _) rfl rfl (a_inputs _) ?_
    fin_run
    have wB := D.wfS b (.tail _ (.tail _ (.head _)))
    refine bare_ok 20 _ _ _ _ wB.1 (by omega) (R'.mono (by omega)) ?_
    rw [wB.2.2]
    fin_run
    refine st_local (pre := [_, _, _, _]) (by kernel_rfl) (by kernel_rfl) ?_
    rfl
  · rintro H₁ rfl
    refine s_cut (fun H₁ => ∃ ex : List Ty, (∀ t ∈ ex, drawnT [.none] 3 t) ∧ ex.length ≤ 2 ∧ H₁ = lawO sa sx wx a1 a2 a3 a4 a5 a6 o a b sg ++ lawF L (("kinds", .lst ((rowsOf o a b ex).map emb)) :: ("kinds", .lst ([bareT o, bareT a, bareT b].map emb)) :: ns0 sx wx sc) none (some (.adr sa))) ?_ ?_
    · refine s_assign ?_
      fin_run
      refine e_comp (R'.handled) (by with_unfolding_all rfl) (by decide +kernel) (by kernel_rfl) (by decide +kernel) (by kernel_rfl) ?_
      fin_run
      refine take_ok (by with_unfolding_all krn_off) (by decide) (by decide) (R'.mono (by omega)) fun d h0 h1 => ?_
      fin_run
      refine ac_range1 ?_
      refine ⟨_, rfl, by simp [smallR]; omega, by simp; omega, fun done acc H' => H' = lawO sa sx wx a1 a2 a3 a4 a5 a6 o a b sg ++ lawF L (("kinds", .lst ([bareT o, bareT a, bareT b].map emb)) :: ns0 sx wx sc) none (some (.adr sa)) ∧ acc.length = done.length ∧ ∀ x ∈ acc, ∃ t, drawnT [.none] 3 t ∧ x = emb t, ⟨rfl, rfl, by simp⟩, ?_, ?_⟩
      · rintro C it D' done item rest acc H' hl ⟨rfl, hlen, hacc⟩
        fin_run
        refine e_list ?_
        fin_run
        refine type_ok (by simp) (by simp) 3 _ _ _ (by with_unfolding_all krn_off) (R'.mono (by omega)) fun t ht => ?_
        refine ⟨_, rfl, rfl, by simp [hlen], fun x hx => ?_⟩
        rcases List.mem_append.mp hx with hx | hx
        · exact hacc x hx
        · exact ⟨t, ht, List.mem_singleton.mp hx⟩
      · rintro acc H' ⟨rfl, hlen, hacc⟩ hl
        obtain ⟨ex, rfl, hex⟩ := mapc_drawn hacc
        have hexl : ex.length ≤ 2 := by
          have := hlen
          simp at this
          omega
        refine ob_addl (by simp; omega) ?_
        refine st_local (pre := [_, _, _, _]) (by kernel_rfl) (by kernel_rfl) ?_
        exact ⟨ex, hex, hexl, by rw [← List.map_append]; rfl⟩
    · rintro H₁ ⟨ex, h1, h2, rfl⟩
      refine TS.names (pre := [_, _, _, _]) (l' := ("kinds", .lst ((rowsOf o a b ex).map emb)) :: ns0 sx wx sc) (kk ex h1 h2 _ hb0) fun x => lookup_dup
end
section
set_option linter.all false
theorem lookup_front {ns : List (Str × AV)} : ∀ {base : List (Str × AV)}, (∀ p ∈ base, ns.lookup p.1 = some p.2) → ∀ x, ns.lookup x = (base ++ ns).lookup x
  | [], _, x => rfl
  | p :: base, h, x => by
    rw [List.cons_append, List.lookup_cons]
    cases e : x == p.1 with
    | true => rw [eq_of_beq e]; exact h p (.head _)
    | false => exact lookup_front (fun q hq => h q (.tail _ hq)) x
theorem keep_front {base ns : List (Str × AV)} {k : Str} {v : AV} (h : ∀ p ∈ base, ns.lookup p.1 = some p.2) (e : base.all (fun p => !(p.1 == k)) = true) : ∀ p ∈ base, ((k, v) :: ns).lookup p.1 = some p.2 := fun p hp => by
  have := List.all_eq_true.mp e p hp
  rw [List.lookup_cons]
  cases q : p.1 == k with
  | true => rw [q] at this; cases this
  | false => exact h p hp
theorem self_front {base ns : List (Str × AV)} (e : base.all (fun p => match base.lookup p.1 with | some _ => true | none => false) = true) (nd : (base.map (·.1)).Nodup) : ∀ p ∈ base, (base ++ ns).lookup p.1 = some p.2 := fun p hp => by
  have := lookup_nd nd hp
  rw [List.lookup_append, this]
  rfl
noncomputable abbrev ns1 (sx wx : Addr) (sc : List Int) (o a b : Ty) (ex : List Ty) (bl : AV) (m : Int) : List (Str × AV) := ("blocks", bl) :: ("many", .int m) :: ("kinds", .lst ((rowsOf o a b ex).map emb)) :: ns0 sx wx sc
theorem mapc_stm {xs : List AV} (h : ∀ x ∈ xs, ∃ v, drawnR v ∧ x = embS (.assign v)) : ∃ ts : List Stm, xs = ts.map embS ∧ ∀ t ∈ ts, drawnS t := by
  induction xs with
  | nil => exact ⟨[], rfl, fun _ h => nomatch h⟩
  | cons x xs ih =>
    obtain ⟨ts, rfl, h2⟩ := ih fun y hy => h y (.tail _ hy)
    obtain ⟨t, ht, rfl⟩ := h x (.head _)
    exact ⟨.assign t :: ts, rfl, fun y hy => by rcases List.mem_cons.mp hy with rfl | hy; exact ht; exact h2 y hy⟩
open PySem.F in
theorem lawC {c : Cx} {A : Around} {sc : List Int} {L sa sx wx a1 a2 a3 a4 a5 a6 : Addr} {o a b : Ty} {ex : List Ty} {sg : SigO} (R' : Room 100 A)
    (kk : ∀ (m : Int) (bls : List Bl) (ns : List (Str × AV)), m ≤ 3 → bls.length ≤ 3 → (∀ x ∈ bls, drawnB m x) → Law c A L 10 (lawO sa sx wx a1 a2 a3 a4 a5 a6 o a b sg ++ lawF L (ns1 sx wx sc o a b ex (.lst (bls.map embB)) m ++ ns) none (some (.adr sa)))) :
    Law c A L 7 (lawO sa sx wx a1 a2 a3 a4 a5 a6 o a b sg ++ lawF L (("kinds", .lst ((rowsOf o a b ex).map emb)) :: ns0 sx wx sc) none (some (.adr sa))) := by
  intro body hb
  have hb0 := hb
  cases hb
  refine s_cons ?_
  refine s_assign ?_
  fin_run
  refine take_ok (by with_unfolding_all krn_off) (by decide) (by decide) (R'.mono (by omega)) fun d h0 h1 => ?_
  fin_run
  generalize hm : 1 + d = m
  refine st_local (pre := [_, _, _, _]) (by kernel_rfl) (by kernel_rfl) ?_
  refine s_cons ?_
  refine s_assign ?_
  refine e_listM ?_
  fin_run
  intro ba
  refine st_local (pre := [_, _, _, _, _]) (by kernel_rfl) (by kernel_rfl) ?_
  refine s_cut (fun H₁ => ∃ (ns : List (Str × AV)) (bls : List Bl), H₁ = (ba, .lst (bls.map embB)) :: (lawO sa sx wx a1 a2 a3 a4 a5 a6 o a b sg ++ lawF L ns none (some (.adr sa))) ∧ bls.length ≤ 3 ∧ (∀ x ∈ bls, drawnB m x) ∧ ∀ p ∈ ns1 sx wx sc o a b ex (.adr ba) m, ns.lookup p.1 = some p.2) ?_ ?_
  · refine s_for R'.handled ?_
    fin_run
    refine ac_range1 ?_
    refine ⟨(List.range m.toNat).map fun (k : Nat) => .int (0 + (k : Int)), by simp [itemsOf], by simp [smallR]; omega, fun done H₁ => ∃ (ns : List (Str × AV)) (bls : List Bl), H₁ = (ba, .lst (bls.map embB)) :: (lawO sa sx wx a1 a2 a3 a4 a5 a6 o a b sg ++ lawF L ns none (some (.adr sa))) ∧ bls.length = done.length ∧ (∀ x ∈ bls, drawnB m x) ∧ ∀ p ∈ ns1 sx wx sc o a b ex (.adr ba) m, ns.lookup p.1 = some p.2, ?_, ?_, ?_⟩
    · refine ⟨_, [], rfl, rfl, (fun _ h => nomatch h), ?_⟩
      exact self_front (base := ns1 sx wx sc o a b ex (.adr ba) m) (ns := []) (by kernel_rfl) (show ([Str.ofString "blocks", Str.ofString "many", Str.ofString "kinds", Str.ofString "sig", Str.ofString "names", Str.ofString "world", Str.ofString "script"] : List Str).Nodup from by decide +kernel)
    · rintro it done item rest H' hl ⟨ns, bls, rfl, hlen, hdr, hns⟩
      have hsz : done.length < m.toNat := by
        have := congrArg List.length hl
        simp at this; omega
      refine aa_name ?_
      refine st_local (pre := [_, _, _, _, _, _]) (by kernel_rfl) (by kernel_rfl) ?_
      refine TS.names (pre := [_, _, _, _, _, _]) (l' := ns1 sx wx sc o a b ex (.adr ba) m ++ ((Str.ofString "block", item) :: ns)) ?_ (lookup_front (keep_front hns (by kernel_rfl)))
      refine s_cut (fun H₁ => ∃ vs : List Stm, (∀ v ∈ vs, drawnS v) ∧ vs.length ≤ 3 ∧ H₁ = (it, .itr rest) :: (ba, .lst (bls.map embB)) :: (lawO sa sx wx a1 a2 a3 a4 a5 a6 o a b sg ++ lawF L ((Str.ofString "rows", .lst (vs.map embS)) :: (ns1 sx wx sc o a b ex (.adr ba) m ++ ((Str.ofString "block", item) :: ns))) none (some (.adr sa)))) ?_ ?_
      · refine s_comp (R'.handled) (by with_unfolding_all rfl) (by decide +kernel) (by kernel_rfl) (by decide +kernel) (by kernel_rfl) ?_ (by with_unfolding_all rfl)
        fin_run
        refine take_ok (by with_unfolding_all krn_off) (by decide) (by decide) (R'.mono (by omega)) fun d' h0' h1' => ?_
        fin_run
        refine ac_range1 ?_
        refine ⟨_, rfl, by simp [smallR]; omega, by simp; omega, fun done acc H' => H' = (it, .itr rest) :: (ba, .lst (bls.map embB)) :: (lawO sa sx wx a1 a2 a3 a4 a5 a6 o a b sg ++ lawF L (ns1 sx wx sc o a b ex (.adr ba) m ++ ((Str.ofString "block", item) :: ns)) none (some (.adr sa))) ∧ acc.length = done.length ∧ ∀ x ∈ acc, ∃ v, drawnR v ∧ x = embS (.assign v), ⟨rfl, rfl, by simp⟩, ?_, ?_⟩
        · rintro C it2 D' done' item' rest' acc H' hl' ⟨rfl, hlen', hacc⟩
          fin_run
          refine stm_ok (by with_unfolding_all krn_off) (R'.mono (by omega)) fun v hv => ?_
          refine ⟨_, rfl, rfl, by simp [hlen'], fun x hx => ?_⟩
          rcases List.mem_append.mp hx with hx | hx
          · exact hacc x hx
          · exact ⟨v, hv, List.mem_singleton.mp hx⟩
        · rintro acc H' C m0 ⟨rfl, hlen', hacc⟩ hl'
          obtain ⟨vs, rfl, hvs⟩ := mapc_stm hacc
          have hvl : vs.length ≤ 3 := by
            have := hlen'
            simp at this
            omega
          refine st_local (pre := [_, _, _, _, _, _, _]) (by kernel_rfl) (by kernel_rfl) ?_
          exact ⟨_, rfl, vs, hvs, hvl, rfl⟩
      · rintro H₁ ⟨vs, hvs, hvl, rfl⟩
        refine s_cons ?_
        refine s_expr (e_methB PySem.F.slot_list_append PySem.F.type_list_append PySem.F.plainAttrs_list ?_) (by kernel_rfl)
        fin_run
        refine ⟨ba, _, rfl, .tail _ (.head _), .inl ⟨rfl, _, rfl⟩, ?_⟩
        refine l_cons ?_
        refine e_list ?_
        refine l_cons ?_
        refine e_binop ?_
        refine e_binop ?_
        refine e_list ?_
        fin_run
        refine ob_addl (by simp; omega) ?_
        refine e_list ?_
        fin_run
        refine opnd_ok (by with_unfolding_all krn_off) (R'.mono (by omega)) fun p hp => ?_
        fin_run
        refine ob_addl (by simp; omega) ?_
        fin_run
        refine end_ok (many := m) (by with_unfolding_all krn_off) (by omega) (by omega) (R'.mono (by omega)) fun v hv => ?_
        fin_run
        refine ac_append (pre := [_]) (by rw [List.length_map]; omega) ?_
        refine ⟨rfl, ?_⟩
        refine s_nil ?_
        refine ⟨_, rfl, (Str.ofString "rows", .lst (vs.map embS)) :: (ns1 sx wx sc o a b ex (.adr ba) m ++ ((Str.ofString "block", item) :: ns)), bls ++ [((Stm.live :: vs ++ [Stm.print p], v) : Bl)], ?_, by simp [hlen], fun x hx => ?_, ?_⟩
        · rw [List.map_append]
          show _ = (ba, MO.lst (_ ++ [.lst [.lst ((Stm.live :: vs ++ [Stm.print p]).map embS), embT v]])) :: _
          rw [List.map_append]
          rfl
        · rcases List.mem_append.mp hx with hx | hx
          · exact hdr x hx
          · cases List.mem_singleton.mp hx
            refine ⟨fun y hy => ?_, by simp; omega, hv⟩
            rcases List.mem_append.mp hy with hy | hy
            · rcases List.mem_cons.mp hy with rfl | hy
              · trivial
              · exact hvs y hy
            · cases List.mem_singleton.mp hy; exact hp
        · exact keep_front (self_front (base := ns1 sx wx sc o a b ex (.adr ba) m) (by kernel_rfl) (show ([Str.ofString "blocks", Str.ofString "many", Str.ofString "kinds", Str.ofString "sig", Str.ofString "names", Str.ofString "world", Str.ofString "script"] : List Str).Nodup from by decide +kernel)) (by kernel_rfl)
    · rintro H' ⟨ns, bls, rfl, h1, h2, h3⟩
      refine ⟨ns, bls, rfl, ?_, h2, h3⟩
      simp at h1
      omega
  · rintro H₁ ⟨ns, bls, rfl, h1, h2, h3⟩
    refine TS.names (pre := [_, _, _, _, _]) (l' := ns1 sx wx sc o a b ex (.adr ba) m ++ ns) ?_ (lookup_front h3)
    refine TS.perm (H₁ := (ba, .lst (bls.map embB)) :: (L, .ns (ns1 sx wx sc o a b ex (.adr ba) m ++ ns)) :: (lawO sa sx wx a1 a2 a3 a4 a5 a6 o a b sg ++ [(L + 2, .cell none), (L + 1, .cell (some (.adr sa)))])) (.cons _ (List.perm_middle (l₁ := lawO sa sx wx a1 a2 a3 a4 a5 a6 o a b sg))) ?_
    refine TS.freeze ?_
    refine TS.perm (List.perm_middle (a := (L, MO.ns (ns1 sx wx sc o a b ex (.lst (bls.map embB)) m ++ ns))) (l₁ := lawO sa sx wx a1 a2 a3 a4 a5 a6 o a b sg) (l₂ := [(L + 2, .cell none), (L + 1, .cell (some (.adr sa)))])).symm ?_
    exact kk m bls ns (by omega) h1 h2 _ hb0
end
section
set_option linter.all false
theorem wf_lst {n : Nat} {l : List AV} (hz : l.length ≤ 1000) (h : ∀ x ∈ l, wfV n x = true) : wfV (n + 1) (.lst l) = true := by
  simp only [wfV, Bool.and_eq_true, decide_eq_true_eq, List.all_eq_true]; exact ⟨h, hz⟩
theorem wf_row {n : Nat} {t : Ty} (h : wfV n (emb t) = true) : wfV (n + 1) (rowV t) = true := wf_gen pl_emb (by simp) fun x hx => by
  rcases List.mem_cons.mp hx with rfl | hx
  · exact h
  rcases List.mem_cons.mp hx with rfl | hx
  · exact wfV_bool
  · cases List.mem_singleton.mp hx; exact wfV_none
variable {o a b : Ty} {ex : List Ty} {bls : List Bl} {many : Int} {sg : SigO}
theorem Dr.rowsLen (D : Dr o a b ex bls many) : (rowsOf o a b ex).length ≤ 5 := by have := D.exl; simp; omega
theorem Dr.wfRows (D : Dr o a b ex bls many) {n : Nat} (hn : 13 ≤ n) : wfV (n + 2) (.lst ((rowsOf o a b ex).map rowV)) = true := by
  refine wf_lst (by rw [List.length_map]; have := D.rowsLen; omega) fun x hx => ?_
  obtain ⟨t, ht, rfl⟩ := List.mem_map.mp hx
  have := drawn3 (D.rows t ht)
  exact wf_row (wf_ty t n (by omega) fun r hr => by rw [this.1 r hr]; rfl)
theorem Dr.wfBls (D : Dr o a b ex bls many) {n : Nat} (hn : 17 ≤ n) : wfV n (.lst (bls.map embB)) = true := by
  obtain ⟨l, h, _⟩ := D.gdB (u := []) (n := 0)
  exact (h n hn).1
theorem Dr.okBody (D : Dr o a b ex bls many) : okV 23 (.lst [.lst ((rowsOf o a b ex).map rowV), .lst (bls.map embB)]) = true := wf_ok (wf_lst (by simp) fun x hx => by
  rcases List.mem_cons.mp hx with rfl | hx
  · exact D.wfRows (by omega)
  · cases List.mem_singleton.mp hx; exact D.wfBls (by omega))
theorem Dr.szBody (D : Dr o a b ex bls many) : Sz (.lst [.lst ((rowsOf o a b ex).map rowV), .lst (bls.map embB)]) 1000000 := sz_body D.many D.rows (by have := D.rowsLen; omega) D.bl (by have := D.bll; omega)
noncomputable abbrev tOf (o a b : Ty) (ex : List Ty) (sg : SigO) : List Ty × Int := numL (uOf sg) (nOf sg) (toldTys (rowsOf o a b ex) sg)
noncomputable abbrev bOf (o a b : Ty) (ex : List Ty) (sg : SigO) (bls : List Bl) : List Bl × Int := numBs (uOf sg) (tOf o a b ex sg).2 bls
noncomputable abbrev aheadS (o a b : Ty) (ex : List Ty) (bls : List Bl) : Str := (py (.lst [.lst ((rowsOf o a b ex).map rowV), .lst (bls.map embB)])).shown
/-- the objects behind renumbered -/
noncomputable abbrev lawP (u2 nb s3 bx s2 : Addr) (o a b : Ty) (ex : List Ty) (sg : SigO) (bls : List Bl) : HL := [(u2, .dct (uOf sg)), (nb, .dct (bodyL 2 (tOf o a b ex sg).1 (.lst ((bOf o a b ex sg bls).1.map embB)) (.adr s3))), (s3, .spt), (bx, .dct (bodyL 2 (rowsOf o a b ex) (.lst (bls.map embB)) (.adr s2))), (s2, .spt)]
noncomputable abbrev nsA (sx wx : Addr) (sc : List Int) (o a b : Ty) (ex : List Ty) (bls : List Bl) (m : Int) : List (Str × AV) := ("locals_now", .lst ((rowsOf o a b ex).map rowV)) :: ns1 sx wx sc o a b ex (.lst (bls.map embB)) m
noncomputable abbrev nsB (bx sx wx : Addr) (sc : List Int) (o a b : Ty) (ex : List Ty) (bls : List Bl) (m : Int) : List (Str × AV) := ("body", .obj 82 bx) :: ("ahead", .str (aheadS o a b ex bls)) :: nsA sx wx sc o a b ex bls m
noncomputable abbrev ns2 (u2 nb bx sx wx : Addr) (sc : List Int) (o a b : Ty) (ex : List Ty) (bls : List Bl) (m : Int) : List (Str × AV) := ("universal", .adr u2) :: ("made", .obj 82 nb) :: nsB bx sx wx sc o a b ex bls m
open PySem.F in
theorem lawD {c : Cx} {A : Around} {sc : List Int} {L sa sx wx a1 a2 a3 a4 a5 a6 : Addr} {m : Int} {ns : List (Str × AV)} (R' : Room 100 A) (D : Dr o a b ex bls m) (S : sg = none ∨ sg = some (sx, a, b, o))
    (kk : ∀ u2 nb s3 bx s2, Law c A L 13 (lawP u2 nb s3 bx s2 o a b ex sg bls ++ (lawO sa sx wx a1 a2 a3 a4 a5 a6 o a b sg ++ lawF L (ns2 u2 nb bx sx wx sc o a b ex bls m ++ ns) none (some (.adr sa))))) :
    Law c A L 10 (lawO sa sx wx a1 a2 a3 a4 a5 a6 o a b sg ++ lawF L (ns1 sx wx sc o a b ex (.lst (bls.map embB)) m ++ ns) none (some (.adr sa))) := by
  have Sg : sgOk o a b sg := S.imp id fun h => ⟨sx, h⟩
  have hrl := D.rowsLen
  have hbl := D.bll
  intro body hb
  have hb0 := hb
  cases hb
  refine s_cut (fun H₁ => H₁ = lawO sa sx wx a1 a2 a3 a4 a5 a6 o a b sg ++ lawF L (nsA sx wx sc o a b ex bls m ++ ns) none (some (.adr sa))) ?_ ?_
  · refine s_comp (R'.handled) (by with_unfolding_all rfl) (by decide +kernel) (by kernel_rfl) (by decide +kernel) (by kernel_rfl) ?_ (by with_unfolding_all rfl)
    fin_run
    refine ⟨(rowsOf o a b ex).map emb, rfl, rfl, by rw [List.length_map]; omega, fun done acc H' => acc = ((rowsOf o a b ex).take done.length).map rowV ∧ H' = lawO sa sx wx a1 a2 a3 a4 a5 a6 o a b sg ++ lawF L (ns1 sx wx sc o a b ex (.lst (bls.map embB)) m ++ ns) none (some (.adr sa)), ⟨rfl, rfl⟩, ?_, ?_⟩
    · rintro C it D' done item rest acc H' hl ⟨rfl, rfl⟩
      obtain ⟨x, hx, rfl, ht⟩ := split_map hl
      fin_run
      refine ⟨_, rfl, ?_, rfl⟩
      rw [List.length_append, List.length_singleton, ht, List.map_append]
      rfl
    · rintro acc H' C m0 ⟨rfl, rfl⟩ hlen
      refine st_local (pre := [_, _, _, _, _]) (by kernel_rfl) (by kernel_rfl) ?_
      refine ⟨_, rfl, ?_⟩
      rw [List.length_map, List.take_length]
      rfl
  · rintro H₁ rfl
    refine s_cut (fun H₁ => ∃ bx s2, H₁ = [(bx, MO.dct (bodyL 2 (rowsOf o a b ex) (.lst (bls.map embB)) (.adr s2))), (s2, .spt)] ++ (lawO sa sx wx a1 a2 a3 a4 a5 a6 o a b sg ++ lawF L (nsB bx sx wx sc o a b ex bls m ++ ns) none (some (.adr sa)))) ?_ ?_
    · refine s_pairL R'.handled ?_
      fin_run
      refine e_spots (by have := R'.units; omega) fun s2 => ?_
      fin_run
      refine ⟨_, rfl, ?_⟩
      fin_run
      refine ac_class (k := 1) (R'.mono (by omega)) (c_Body _) (c_Body' _) (c_Body'' _) fun bx A'' R'' => ?_
      refine bodyInit_ok R'' (by rw [List.length_map]; omega) rfl rfl ⟨rfl, ?_⟩
      fin_run
      refine e_list ?_
      fin_run
      refine ac_repr (n := 23) D.okBody (by omega) D.szBody.1 (Nat.le_trans D.szBody.2 (by omega)) (R'.mono (by omega)) ?_
      fin_run
      refine ⟨_, _, rfl, ?_⟩
      refine st_local (pre := [_, _, _, _, _, _]) (by kernel_rfl) (by kernel_rfl) ?_
      refine st_local (pre := [_, _, _, _, _, _]) (by kernel_rfl) (by kernel_rfl) ?_
      exact ⟨bx, s2, rfl⟩
    · rintro H₁ ⟨bx, s2, rfl⟩
      refine s_cons ?_
      refine s_pair R'.handled ?_
      fin_run
      refine ren_pre (bx := bx) (wx := wx) (a1 := a1) (a2 := a2) (a3 := a3) (a4 := a4) (a5 := a5) (a6 := a6) (s2 := s2) (sm := .spt) (ac := 2) (rows := rowsOf o a b ex) (bls := bls) (sg := sg) (k := 7) ⟨?_, ?_, ?_, ?_, ?_⟩ (R'.mono (by omega)) (D.told Sg) (by omega) ?_ D.goodB (by omega) (.inl rfl) fun nb u2 s3 => ?_
      · exact .head _
      · exact .tail _ (.tail _ (.tail _ (.head _)))
      · exact .tail _ (.tail _ (.tail _ (.tail _ (.head _))))
      · exact .tail _ (.head _)
      · rcases S with rfl | rfl
        · trivial
        · exact .tail _ (.tail _ (.head _))
      · intro _
        exact ⟨rfl, by simp⟩
      refine ⟨_, _, rfl, ?_⟩
      refine st_local (pre := [_, _, _, _, _, _, _, _, _]) (by kernel_rfl) (by kernel_rfl) ?_
      refine st_local (pre := [_, _, _, _, _, _, _, _, _]) (by kernel_rfl) (by kernel_rfl) ?_
      exact kk u2 nb s3 bx s2 _ hb0
end
section
set_option linter.all false
/-- y = [f(y) for x in part for y in g(x)], the ledger as it was -/
theorem s_flat {c : Cx} {A : Around} {env : Env} {elt i0 i1 : Expr} {x0 x1 y : Str} {p0 p1 py : Pos} {scope : Scope} {pos spos : Pos} {cl : List (Str × Addr)} {H : HL} {Kn : HL → Prop} {Kr : AV → HL → Prop} (g : AV → List AV) (f : AV → AV) (hh : A.handled = none) (hclos : closureFor scope env = pure cl) (hcell : ∀ y ∈ scope.names, y.2 ≠ .cell) (hkind : scope.kind = .function)
    (hnames : ∀ y ∈ scope.names, y.2 = .local → scope.names.lookup y.1 = some .local) (hx0 : (relabel scope env).names.lookup x0 = some .local) (hx1 : (relabel scope env).names.lookup x1 = some .local)
    (h : AE c A env i0 H fun d H₁ => ∃ l, itemsOf d = some l ∧ smallR d = true ∧ (l.flatMap g).length ≤ 10000 ∧
      (∀ C it D old rest acc item, item ∈ l → AE c A (compEnvC scope cl C env) i1 ((C, .ns ((x0, item) :: old)) :: (it, .itr rest) :: (D, .lst acc) :: H₁) (fun d1 H'' => (∃ old', H'' = (C, .ns old') :: (it, .itr rest) :: (D, .lst acc) :: H₁) ∧ d1 = .lst (g item))) ∧
      (∀ C it1 it D old1 rest1 rest acc1 item item1, item ∈ l → item1 ∈ g item → AE c A (compEnvC scope cl C env) elt ((C, .ns ((x1, item1) :: old1)) :: (it1, .itr rest1) :: (it, .itr rest) :: (D, .lst acc1) :: H₁)
        (fun d' H₅ => (∃ old2, H₅ = (C, .ns old2) :: (it1, .itr rest1) :: (it, .itr rest) :: (D, .lst acc1) :: H₁) ∧ d' = f item1)) ∧
      (∀ C m0, ST c A env y (.lst ((l.flatMap g).map f)) ((C, .ns m0) :: H₁) (fun H'' => ∃ H₃, H'' = (C, .ns m0) :: H₃ ∧ Kn H₃)))
    (hu : swapsWith (comp2 elt (.Name x0 p0) i0 (.Name x1 p1) i1 scope pos) (some (.Name y py)) spos.line env = pure true)
    (hs : ∀ x, foldedSetIterable i0 env x = pure x := by intro _; with_unfolding_all rfl) (hs1 : ∀ env x, foldedSetIterable i1 env x = pure x := by intro _ _; with_unfolding_all rfl) :
    AS c A env (.Assign [.Name y py] (comp2 elt (.Name x0 p0) i0 (.Name x1 p1) i1 scope pos) spos) H Kn Kr := by
  refine s_comp2 hh hclos hcell hkind hnames hx0 hx1 (TV.mono h fun d H₁ k => ?_) hu hs hs1
  obtain ⟨l, h1, h2, h3, h4, h5, h6⟩ := k
  refine ⟨l, h1, h2, fun done acc H' => acc = (done.flatMap g).map f ∧ H' = H₁, ⟨rfl, rfl⟩, ?_, fun acc H' C m0 q => ?_⟩
  · rintro C it D old done item rest acc H' hl ⟨rfl, rfl⟩
    refine TV.mono (h4 C it D old rest _ item (by rw [hl]; simp)) fun d' H'' q => ?_
    obtain ⟨⟨old', rfl⟩, rfl⟩ := q
    refine ⟨_, old', rfl, g item, rfl, rfl, ?_, fun done1 acc1 H₄ => acc1 = (done.flatMap g).map f ++ done1.map f ∧ H₄ = H', ⟨by simp, rfl⟩, ?_, ?_⟩
    · rw [hl] at h3
      simp only [List.flatMap_append, List.flatMap_cons, List.length_append] at h3
      rw [List.length_map]; omega
    · rintro it1 old1 done1 item1 rest1 acc1 H₄ hl1 ⟨rfl, rfl⟩
      refine TV.mono (h5 C it1 it D old1 rest1 rest _ item item1 (by rw [hl]; simp) (by rw [hl1]; simp)) fun d' H'' q => ?_
      obtain ⟨⟨old2, rfl⟩, rfl⟩ := q
      exact ⟨_, old2, rfl, by simp, rfl⟩
    · rintro acc1 H₄ ⟨rfl, rfl⟩
      exact ⟨by simp, rfl⟩
  · obtain ⟨rfl, rfl⟩ := q
    exact h6 C m0
variable {o a b : Ty} {ex : List Ty} {bls : List Bl} {many : Int} {sg : SigO}
/-- the ledger behind renumbered -/
noncomputable abbrev lawH (u2 nb s3 bx s2 sa sx wx a1 a2 a3 a4 a5 a6 L : Addr) (sc : List Int) (o a b : Ty) (ex : List Ty) (sg : SigO) (bls : List Bl) (m : Int) (ns : List (Str × AV)) (due : Option AV) : HL :=
  lawP u2 nb s3 bx s2 o a b ex sg bls ++ (lawO sa sx wx a1 a2 a3 a4 a5 a6 o a b sg ++ lawF L (ns2 u2 nb bx sx wx sc o a b ex bls m ++ ns) due (some (.adr sa)))
theorem head0_row {t : Ty} : head0 (rowV t) = emb t := rfl
open PySem.F in
theorem lawE {c : Cx} {A : Around} {sc : List Int} {L u2 nb s3 bx s2 sa sx wx a1 a2 a3 a4 a5 a6 : Addr} {m : Int} {ns : List (Str × AV)} (R' : Room 100 A) (D : Dr o a b ex bls m) (S : sg = none ∨ sg = some (sx, a, b, o))
    (kk : Law c A L 14 (lawH u2 nb s3 bx s2 sa sx wx a1 a2 a3 a4 a5 a6 L sc o a b ex sg bls m ns none)) : Law c A L 13 (lawH u2 nb s3 bx s2 sa sx wx a1 a2 a3 a4 a5 a6 L sc o a b ex sg bls m ns none) := by
  have Sg : sgOk o a b sg := S.imp id fun h => ⟨sx, h⟩
  intro body hb
  have hb0 := hb
  cases hb
  refine s_cut (fun H₁ => ∃ s4, H₁ = (s4, MO.spt) :: lawH u2 nb s3 bx s2 sa sx wx a1 a2 a3 a4 a5 a6 L sc o a b ex sg bls m ns none) ?_ ?_
  · refine s_if ?_
    refine t_boolop ?_
    refine t_or ?_
    refine t_compare ?_
    refine e_call ?_
    fin_run
    refine e_list ?_
    refine l_cons ?_
    refine e_attr ?_
    fin_run
    refine attK2 (l := bodyL 2 (rowsOf o a b ex) (.lst (bls.map embB)) (.adr s2)) (e := .lst ((rowsOf o a b ex).map rowV)) (.tail _ (.tail _ (.tail _ (.head _)))) rfl rfl (a_locals _) ?_
    refine l_cons ?_
    refine e_attr ?_
    fin_run
    refine attK2 (l := bodyL 2 (rowsOf o a b ex) (.lst (bls.map embB)) (.adr s2)) (e := .lst (bls.map embB)) (.tail _ (.tail _ (.tail _ (.head _)))) rfl rfl (a_blocks _) ?_
    fin_run
    refine ac_repr (n := 23) D.okBody (by omega) D.szBody.1 (Nat.le_trans D.szBody.2 (by omega)) (R'.mono (by omega)) ?_
    fin_run
    refine ⟨false, congrArg AV.bool (show (!(aheadS o a b ex bls == aheadS o a b ex bls)) = false from by simp), ?_⟩
    refine ⟨fun _ => ?_, fun h => by cases h⟩
    refine t_or ?_
    refine t_compare ?_
    refine e_call ?_
    fin_run
    refine e_attr ?_
    fin_run
    refine attK2 (l := bodyL 2 (tOf o a b ex sg).1 (.lst ((bOf o a b ex sg bls).1.map embB)) (.adr s3)) (e := .lst ((bOf o a b ex sg bls).1.map embB)) (.tail _ (.head _)) rfl rfl (a_blocks _) ?_
    fin_run
    obtain ⟨l, hN, hF, hlen⟩ := D.gdB (u := uOf sg) (n := (tOf o a b ex sg).2)
    have h22 := hN 22 (by omega)
    refine bare_ok 22 _ _ _ _ h22.2.1 (by omega) (R'.mono (by omega)) ?_
    rw [h22.2.2.1]
    fin_run
    refine oc_nself (n := 22) (wf_ok h22.1) (by omega) (R'.mono (by omega)) ?_
    refine ⟨false, rfl, ?_⟩
    refine ⟨fun _ => ?_, fun h => by cases h⟩
    refine t_or ?_
    refine t_compare ?_
    refine e_attr ?_
    fin_run
    refine attK2 (l := bodyL 2 (tOf o a b ex sg).1 (.lst ((bOf o a b ex sg bls).1.map embB)) (.adr s3)) (e := .adr s3) (.tail _ (.head _)) rfl rfl (a_spots _) ?_
    refine e_spots (by have := R'.units; omega) fun s4 => ?_
    fin_run
    refine ⟨_, rfl, ?_⟩
    refine oc_sne (.tail _ (.tail _ (.tail _ (.head _)))) (.head _) (by have := R'.units; omega) ?_
    refine ⟨false, rfl, ?_⟩
    refine ⟨fun _ => ?_, fun h => by cases h⟩
    refine t_or_nil ?_
    refine ⟨(fun h => by cases h), fun _ => ?_⟩
    refine s_nil ?_
    exact ⟨s4, rfl⟩
  · rintro H₁ ⟨s4, rfl⟩
    refine TS.drop ?_
    exact kk _ hb0
end
section
set_option linter.all false
variable {o a b : Ty} {ex : List Ty} {bls : List Bl} {many : Int} {sg : SigO}
theorem Dr.kinds (D : Dr o a b ex bls many) (S : sgOk o a b sg) : ((tOf o a b ex sg).1.map rowV).map (fun d => bareV 20 (head0 d)) = (rowsOf o a b ex).map emb := by
  rw [List.map_map]
  have h : ∀ t ∈ (tOf o a b ex sg).1, ((fun d => bareV 20 (head0 d)) ∘ rowV) t = emb (bareT t) := fun t ht => (D.wfT S t ht).2.2
  rw [List.map_congr_left h, ← D.toldBare S, ← numL_bare (u := uOf sg) _ (nOf sg), List.map_map]
  rfl
open PySem.F in
theorem lawG {c : Cx} {A : Around} {sc : List Int} {L u2 nb s3 bx s2 sa sx wx a1 a2 a3 a4 a5 a6 : Addr} {m : Int} {ns : List (Str × AV)} (R' : Room 100 A) (D : Dr o a b ex bls m) (S : sg = none ∨ sg = some (sx, a, b, o))
    (kk : Law c A L 15 (lawH u2 nb s3 bx s2 sa sx wx a1 a2 a3 a4 a5 a6 L sc o a b ex sg bls m ns none)) : Law c A L 14 (lawH u2 nb s3 bx s2 sa sx wx a1 a2 a3 a4 a5 a6 L sc o a b ex sg bls m ns none) := by
  have Sg : sgOk o a b sg := S.imp id fun h => ⟨sx, h⟩
  intro body hb
  have hb0 := hb
  cases hb
  refine s_cons ?_
  refine s_if ?_
  refine t_boolop ?_
  refine t_or ?_
  refine t_compare ?_
  refine e_mapc (fun d => bareV 20 (head0 d)) (R'.handled) (by with_unfolding_all rfl) (by decide +kernel) (by kernel_rfl) (by decide +kernel) (by kernel_rfl) ?_
  refine e_attr ?_
  fin_run
  refine attK2 (l := bodyL 2 (tOf o a b ex sg).1 (.lst ((bOf o a b ex sg bls).1.map embB)) (.adr s3)) (e := .lst ((tOf o a b ex sg).1.map rowV)) (.tail _ (.head _)) rfl rfl (a_locals _) ?_
  have hln : (tOf o a b ex sg).1.length ≤ 5 := by rw [numL_length]; exact (D.toldLen Sg).1
  refine ⟨_, rfl, rfl, by rw [List.length_map]; omega, fun C it D' rest acc item hi => ?_, ?_⟩
  · obtain ⟨t, ht, rfl⟩ := List.mem_map.mp hi
    have w := D.wfT Sg t ht
    fin_run
    refine bare_ok 20 _ _ _ _ w.1 (by omega) (R'.mono (by omega)) ?_
    exact ⟨rfl, rfl⟩
  · rw [D.kinds Sg]
    fin_run
    have okR : okV 22 (.lst ((rowsOf o a b ex).map emb)) = true := wf_ok (wf_lst (n := 21) (by rw [List.length_map]; have := D.rowsLen; omega) fun x hx => by
      obtain ⟨t, ht, rfl⟩ := List.mem_map.mp hx
      have := drawn3 (D.rows t ht)
      exact wf_ty t 21 (by omega) fun r hr => by rw [this.1 r hr]; rfl)
    refine oc_nself (n := 22) okR (by omega) (R'.mono (by omega)) ?_
    refine ⟨false, rfl, ?_⟩
    refine ⟨fun _ => ?_, fun h => by cases h⟩
    refine t_or ?_
    refine t_compare ?_
    refine e_tuple ?_
    refine l_cons ?_
    refine e_attr ?_
    fin_run
    refine attK2 (l := bodyL 2 (tOf o a b ex sg).1 (.lst ((bOf o a b ex sg bls).1.map embB)) (.adr s3)) (e := .str "f") (.tail _ (.head _)) rfl rfl (a_name _) ?_
    refine l_cons ?_
    refine e_attr ?_
    fin_run
    refine attK2 (l := bodyL 2 (tOf o a b ex sg).1 (.lst ((bOf o a b ex sg bls).1.map embB)) (.adr s3)) (e := .int 2) (.tail _ (.head _)) rfl rfl (a_argc _) ?_
    fin_run
    refine oc_nself (n := 22) (by decide +kernel) (by omega) (R'.mono (by omega)) ?_
    refine ⟨false, rfl, ?_⟩
    refine ⟨fun _ => ?_, fun h => by cases h⟩
    refine t_or_nil ?_
    refine ⟨(fun h => by cases h), fun _ => ?_⟩
    refine s_nil ?_
    exact kk _ hb0
end
section
set_option linter.all false
variable {o a b : Ty} {ex : List Ty} {bls : List Bl} {many : Int} {sg : SigO}
theorem ac_update' {c : Cx} {A : Around} {a b : Addr} {l m : List (Str × AV)} {pre post : HL} {K : AV → HL → Prop} (nd : ((l ++ m).map (·.1)).Nodup) (hz : l.length + m.length ≤ 1000)
    (k : K .none ((b, .dct m) :: (pre ++ (a, .dct (l ++ m)) :: post))) : AC c A (.blt "dict.update") [.adr a, .adr b] ((b, .dct m) :: (pre ++ (a, .dct l) :: post)) K := by
  intro s vs E Q I hv P
  have hab : a ≠ b := fun e => by
    have h := (List.nodup_cons.mp I.apart).1
    exact h (dom_mem (p := (b, MO.dct l)) (List.mem_append_right _ (e ▸ .head _)))
  exact ac_update (pre := (b, .dct m) :: pre) (.head _) hab nd hz k s vs E Q I hv P
/-- the names that do not change -/
theorem front_named {ns : List (Str × AV)} {u2 nb bx sx wx : Addr} {sc : List Int} {bls : List Bl} {m : Int} {k : Str} {v : AV} (e : (ns2 u2 nb bx sx wx sc o a b ex bls m).all (fun p => !(p.1 == k)) = true) :
    ∀ x, ((k, v) :: (ns2 u2 nb bx sx wx sc o a b ex bls m ++ ns)).lookup x = (ns2 u2 nb bx sx wx sc o a b ex bls m ++ ((k, v) :: (ns2 u2 nb bx sx wx sc o a b ex bls m ++ ns))).lookup x :=
  lookup_front (keep_front (self_front (by kernel_rfl) (show ([Str.ofString "universal", Str.ofString "made", Str.ofString "body", Str.ofString "ahead", Str.ofString "locals_now", Str.ofString "blocks", Str.ofString "many", Str.ofString "kinds", Str.ofString "sig", Str.ofString "names", Str.ofString "world", Str.ofString "script"] : List Str).Nodup from by decide +kernel)) e)
theorem flat_eq {α : Type} {f : α → AV} {g : AV → List AV} {h : α → List AV} : ∀ {ts : List α}, (∀ t ∈ ts, g (f t) = h t) → (ts.map f).flatMap g = ts.flatMap h
  | [], _ => rfl
  | t :: ts, e => by rw [List.map_cons, List.flatMap_cons, List.flatMap_cons, e t (.head _), flat_eq fun x hx => e x (.tail _ hx)]
theorem Dr.flatS (D : Dr o a b ex bls many) : [emb o, emb a, emb b].flatMap (regsV 20) = [o, a, b].flatMap regsT := flat_eq (f := emb) (ts := [o, a, b]) fun t ht => (D.wfS t ht).2.1
theorem Dr.lenS (D : Dr o a b ex bls many) : ([o, a, b].flatMap regsT).length ≤ 42 := flat_len (m := 14) [o, a, b] fun t ht => D.regsLen (sg := some (0, a, b, o)) t (List.mem_append_left _ ht) (.inr ⟨0, rfl⟩)
theorem Dr.flatR (D : Dr o a b ex bls many) (S : sgOk o a b sg) {ts : List Ty} (h : ∀ t ∈ ts, t ∈ (tOf o a b ex sg).1) : (ts.map rowV).flatMap (fun d => regsV 20 (head0 d)) = ts.flatMap regsT := flat_eq fun t ht => (D.wfT S t (h t ht)).2.1
theorem Dr.lenR (D : Dr o a b ex bls many) (S : sgOk o a b sg) {ts : List Ty} (h : ∀ t ∈ ts, t ∈ (tOf o a b ex sg).1) (hl : ts.length ≤ 5) : (ts.flatMap regsT).length ≤ 70 :=
  Nat.le_trans (flat_len (m := 14) ts fun t ht => numL_regsLen _ _ (fun x hx => D.regsLen (sg := sg) x hx S) t (h t ht)) (Nat.mul_le_mul_left 14 hl)
theorem Dr.okNamed (D : Dr o a b ex bls many) : okV 22 (.lst (([o, a, b].flatMap regsT).map look)) = true := by
  simp only [okV, List.all_eq_true]
  intro x hx
  obtain ⟨r, hr, rfl⟩ := List.mem_map.mp hx
  obtain ⟨t, ht, hr⟩ := List.mem_flatMap.mp hr
  obtain ⟨y, i, rfl, e⟩ := name_good ((D.names t ht).2 r hr)
  simp only [look, e, Option.getD_some]
  rfl
open PySem.F in
theorem lawI {c : Cx} {A : Around} {sc : List Int} {L u2 nb s3 bx s2 sa sx wx a1 a2 a3 a4 a5 a6 : Addr} {m : Int} {ns : List (Str × AV)} (R' : Room 100 A) (D : Dr o a b ex bls m) (S : sg = none ∨ sg = some (sx, a, b, o))
    (kk : ∀ da ns, Law c A L 17 ((da, .dct (uOf sg)) :: lawH u2 nb s3 bx s2 sa sx wx a1 a2 a3 a4 a5 a6 L sc o a b ex sg bls m ns (some (.adr da)))) : Law c A L 15 (lawH u2 nb s3 bx s2 sa sx wx a1 a2 a3 a4 a5 a6 L sc o a b ex sg bls m ns none) := by
  have Sg : sgOk o a b sg := S.imp id fun h => ⟨sx, h⟩
  intro body hb
  have hb0 := hb
  cases hb
  refine s_cons ?_
  refine s_assign ?_
  refine e_dict1 fun da => ?_
  refine ap_cons ?_
  fin_run
  refine ⟨_, rfl, ?_⟩
  fin_run
  refine ap_nil ?_
  refine ⟨List.nodup_cons.mpr ⟨List.not_mem_nil, List.nodup_nil⟩, _, rfl, ?_⟩
  refine st_cell (d₀ := none) (pre := [_, _, _, _, _, _, _, _, _, _, _]) (by kernel_rfl) (by kernel_rfl) (by kernel_rfl) ?_
  refine s_cons ?_
  refine s_if ?_
  refine t_compare ?_
  fin_run
  refine e_attr ?_
  fin_run
  refine attK2 (l := worldL a1 a2 a3 a4 a5 a6) (e := .adr a3) (.tail _ (.tail _ (.tail _ (.tail _ (.tail _ (.tail _ (.tail _ (.head _)))))))) rfl rfl (a_sigs _) ?_
  refine oc_din (l := sigsL sg) (.tail _ (.tail _ (.tail _ (.tail _ (.tail _ (.tail _ (.tail _ (.tail _ (.head _))))))))) ?_
  refine ⟨_, rfl, ?_⟩
  rcases S with rfl | rfl
  · refine ⟨fun h => (by cases h), fun _ => ?_⟩
    refine s_nil ?_
    exact kk da ns _ hb0
  refine ⟨fun _ => ?_, fun h => by cases h⟩
  refine s_cons ?_
  refine s_expr (e_methB PySem.F.slot_dict_update PySem.F.type_dict_update PySem.F.plainAttrs_dict ?_) (by kernel_rfl)
  fin_run
  refine ⟨da, _, rfl, .head _, .inr ⟨rfl, _, rfl⟩, ?_⟩
  refine l_cons ?_
  refine e_dict3 fun db => ?_
  refine ap_cons ?_
  fin_run
  refine ⟨_, rfl, ?_⟩
  fin_run
  refine ap_cons ?_
  fin_run
  refine ⟨_, rfl, ?_⟩
  fin_run
  refine ap_cons ?_
  fin_run
  refine ⟨_, rfl, ?_⟩
  fin_run
  refine ap_nil ?_
  refine ⟨show ([Str.ofString "'a", Str.ofString "'b", Str.ofString "'_1"] : List Str).Nodup from by decide +kernel, _, rfl, ?_⟩
  fin_run
  refine ac_update' (pre := []) (show ([Str.ofString "'static", Str.ofString "'a", Str.ofString "'b", Str.ofString "'_1"] : List Str).Nodup from by decide +kernel) (by decide) ?_
  refine ⟨rfl, ?_⟩
  refine TS.drop ?_
  refine s_cut (fun H₁ => H₁ = (da, MO.dct fullU) :: lawP u2 nb s3 bx s2 o a b ex (some (sx, a, b, o)) bls ++ (lawO sa sx wx a1 a2 a3 a4 a5 a6 o a b (some (sx, a, b, o)) ++ lawF L (("named", .lst (([o, a, b].flatMap regsT).map look)) :: (ns2 u2 nb bx sx wx sc o a b ex bls m ++ ns)) (some (.adr da)) (some (.adr sa)))) ?_ ?_
  · refine s_flat (regsV 20) look (R'.handled) (by with_unfolding_all rfl) (by decide +kernel) (by kernel_rfl) (by decide +kernel) (by kernel_rfl) (by kernel_rfl) ?_ (by with_unfolding_all rfl)
    refine e_binop ?_
    refine e_tuple ?_
    refine l_cons ?_
    refine e_attr ?_
    fin_run
    refine ⟨226, sx, sigL a b o, emb o, rfl, .tail _ (.tail _ (.tail _ (.tail _ (.tail _ (.tail _ (.head _)))))), rfl, handed_emb, a_output _, ?_⟩
    fin_run
    refine e_attr ?_
    fin_run
    refine attK2 (l := sigL a b o) (e := .tup [emb a, emb b]) (.tail _ (.tail _ (.tail _ (.tail _ (.tail _ (.tail _ (.head _))))))) rfl rfl (a_inputs _) ?_
    refine ob_addt (by simp) (by simp) (by simp) ?_
    have hlen := D.lenS
    refine ⟨[emb o, emb a, emb b], rfl, rfl, by rw [D.flatS]; omega, fun C it D' old rest acc item hi => ?_, fun C it1 it D' old1 rest1 rest acc1 item item1 hi hi1 => ?_, fun C m0 => ?_⟩
    · obtain ⟨t, ht, rfl⟩ := List.mem_map.mp (show item ∈ [o, a, b].map emb from hi)
      have w := D.wfS t ht
      fin_run
      exact regs_ok 20 _ _ _ _ w.1 (by omega) (Nat.le_trans (flat_sub (g := regsV 20) hi) (by rw [D.flatS]; omega)) (R'.mono (by omega)) ⟨⟨_, rfl⟩, rfl⟩
    · obtain ⟨t, ht, rfl⟩ := List.mem_map.mp (show item ∈ [o, a, b].map emb from hi)
      rw [(D.wfS t ht).2.1] at hi1
      obtain ⟨x, i, rfl, e⟩ := name_good ((D.names t ht).2 _ hi1)
      refine e_sub ?_
      fin_run
      refine os_dct (l := fullU) (.tail _ (.tail _ (.tail _ (.tail _ (.head _))))) e ⟨⟨_, rfl⟩, ?_⟩
      simp only [look, e, Option.getD_some]
    · rw [D.flatS]
      refine st_local (pre := [_, _, _, _, _, _, _, _, _, _, _]) (by kernel_rfl) (by kernel_rfl) ?_
      exact ⟨_, rfl, rfl⟩
  · rintro H₁ rfl
    refine s_cons ?_
    refine s_if ?_
    refine t_compare ?_
    refine e_flat (fun d => regsV 20 (head0 d)) id (R'.handled) (by with_unfolding_all rfl) (by decide +kernel) (by kernel_rfl) (by decide +kernel) (by kernel_rfl) (by kernel_rfl) ?_
    refine e_upto ?_
    refine e_attr ?_
    fin_run
    refine attK2 (l := bodyL 2 (tOf o a b ex (some (sx, a, b, o))).1 (.lst ((bOf o a b ex (some (sx, a, b, o)) bls).1.map embB)) (.adr s3)) (e := .lst ((tOf o a b ex (some (sx, a, b, o))).1.map rowV)) (.tail _ (.tail _ (.head _))) rfl rfl (a_locals _) ?_
    fin_run
    have hln : (tOf o a b ex (some (sx, a, b, o))).1.length ≤ 5 := by rw [numL_length]; exact (D.toldLen Sg).1
    have hsub : ∀ t ∈ (tOf o a b ex (some (sx, a, b, o))).1.take 3, t ∈ (tOf o a b ex (some (sx, a, b, o))).1 := fun t ht => List.take_subset _ _ ht
    have hfl : (((tOf o a b ex (some (sx, a, b, o))).1.map rowV).take 3).flatMap (fun d => regsV 20 (head0 d)) = ([o, a, b].flatMap regsT).map look := by
      rw [← List.map_take, D.flatR Sg hsub]
      exact D.named
    have hlen := D.lenS
    refine ⟨3, rfl, .inr ⟨_, rfl, by rw [List.length_map]; omega, ?_⟩⟩
    refine ⟨_, rfl, rfl, by rw [hfl, List.length_map]; omega, fun C it D' old rest acc item hi => ?_, fun C it1 it D' old1 rest1 rest acc1 item item1 hi hi1 => ?_, ?_⟩
    · have hi' := hi
      rw [← List.map_take] at hi'
      obtain ⟨t, ht, rfl⟩ := List.mem_map.mp hi'
      have w := D.wfT Sg t (hsub t ht)
      fin_run
      exact regs_ok 20 _ _ _ _ w.1 (by omega) (Nat.le_trans (flat_sub (g := fun d => regsV 20 (head0 d)) hi) (by rw [hfl, List.length_map]; omega)) (R'.mono (by omega)) ⟨⟨_, rfl⟩, rfl⟩
    · fin_run
      exact ⟨⟨_, rfl⟩, rfl⟩
    · rw [List.map_id, hfl]
      fin_run
      refine oc_nself (n := 22) D.okNamed (by omega) (R'.mono (by omega)) ?_
      refine ⟨false, rfl, ?_⟩
      refine ⟨(fun h => by cases h), fun _ => ?_⟩
      refine s_nil ?_
      refine s_nil ?_
      refine TS.names (pre := [_, _, _, _, _, _, _, _, _, _]) ?_ (front_named (by kernel_rfl))
      exact kk da _ _ hb0
end
section
set_option linter.all false
variable {o a b : Ty} {ex : List Ty} {bls : List Bl} {many : Int} {sg : SigO}
theorem uOf_len : ((uOf sg).length : Int) = nOf sg := by cases sg <;> rfl
theorem uOf_int : ∀ p ∈ uOf sg, ∃ i, p.2 = .int i := by
  cases sg with
  | none => intro p hp; cases List.mem_singleton.mp hp; exact ⟨0, rfl⟩
  | some x =>
    intro p hp
    have hp : p ∈ fullU := hp
    simp only [fullU, List.mem_cons, List.not_mem_nil, or_false] at hp
    rcases hp with rfl | rfl | rfl | rfl
    · exact ⟨0, rfl⟩
    · exact ⟨1, rfl⟩
    · exact ⟨2, rfl⟩
    · exact ⟨3, rfl⟩
theorem kOf_eq : (3 : Int) * (if ((sigsL sg).lookup (Str.ofString "f")).isSome = true then 1 else 0) = ((kOf sg : Nat) : Int) := by
  cases sg with
  | none => rfl
  | some x => rfl
theorem mul_ok3 {x : Int} (h : x = 0 ∨ x = 1) : IntMulOk 3 x := by
  rcases h with rfl | rfl <;> exact IntMulOk.of_le (m := 2) (n := 1) (by decide +kernel) (by decide +kernel) (by decide)
open PySem.F in
theorem lawJ {c : Cx} {A : Around} {sc : List Int} {L u2 nb s3 bx s2 sa sx wx a1 a2 a3 a4 a5 a6 da : Addr} {m : Int} {ns : List (Str × AV)} (R' : Room 100 A) (D : Dr o a b ex bls m) (S : sg = none ∨ sg = some (sx, a, b, o)) :
    Law c A L 17 ((da, .dct (uOf sg)) :: lawH u2 nb s3 bx s2 sa sx wx a1 a2 a3 a4 a5 a6 L sc o a b ex sg bls m ns (some (.adr da))) := by
  have Sg : sgOk o a b sg := S.imp id fun h => ⟨sx, h⟩
  obtain ⟨l, hN, hF, hll⟩ := D.gdB (u := uOf sg) (n := (tOf o a b ex sg).2)
  have h22 := hN 22 (by omega)
  have hln : (tOf o a b ex sg).1.length ≤ 5 := by rw [numL_length]; exact (D.toldLen Sg).1
  have hsub : ∀ t ∈ (tOf o a b ex sg).1.drop (kOf sg), t ∈ (tOf o a b ex sg).1 := fun t ht => List.drop_subset _ _ ht
  have hfl : (((tOf o a b ex sg).1.map rowV).drop (kOf sg)).flatMap (fun d => regsV 20 (head0 d)) = ((tOf o a b ex sg).1.drop (kOf sg)).flatMap regsT := by
    rw [← List.map_drop, D.flatR Sg hsub]
  have hlen : (((tOf o a b ex sg).1.drop (kOf sg)).flatMap regsT).length ≤ 70 := D.lenR Sg hsub (by rw [List.length_drop]; omega)
  have hFr := Fresh.app (D.freeL Sg) hF
  obtain ⟨is, e1, e2, e3⟩ := hFr.ints
  intro body hb
  cases hb
  refine s_cut (fun H₁ => H₁ = (da, MO.dct (uOf sg)) :: lawP u2 nb s3 bx s2 o a b ex sg bls ++ (lawO sa sx wx a1 a2 a3 a4 a5 a6 o a b sg ++ lawF L (("free", .lst (((tOf o a b ex sg).1.drop (kOf sg)).flatMap regsT)) :: (ns2 u2 nb bx sx wx sc o a b ex bls m ++ ns)) (some (.adr da)) (some (.adr sa)))) ?_ ?_
  · refine s_flat (fun d => regsV 20 (head0 d)) id (R'.handled) (by with_unfolding_all rfl) (by decide +kernel) (by kernel_rfl) (by decide +kernel) (by kernel_rfl) (by kernel_rfl) ?_ (by with_unfolding_all rfl)
    refine e_from ?_
    refine e_attr ?_
    fin_run
    refine attK2 (l := bodyL 2 (tOf o a b ex sg).1 (.lst ((bOf o a b ex sg bls).1.map embB)) (.adr s3)) (e := .lst ((tOf o a b ex sg).1.map rowV)) (.tail _ (.tail _ (.head _))) rfl rfl (a_locals _) ?_
    refine e_binop ?_
    fin_run
    refine e_attr ?_
    fin_run
    refine attK2 (l := worldL a1 a2 a3 a4 a5 a6) (e := .adr a3) (.tail _ (.tail _ (.tail _ (.tail _ (.tail _ (.tail _ (.tail _ (.head _)))))))) rfl rfl (a_sigs _) ?_
    refine oc_din (l := sigsL sg) (.tail _ (.tail _ (.tail _ (.tail _ (.tail _ (.tail _ (.tail _ (.tail _ (.head _))))))))) ?_
    fin_run
    refine ob_mul ?_ ?_
    · exact mul_ok3 (by cases sg; exact .inl rfl; exact .inr rfl)
    refine ⟨kOf sg, congrArg AV.int kOf_eq, .inr ⟨_, rfl, by rw [List.length_map]; omega, ?_⟩⟩
    refine ⟨_, rfl, rfl, by rw [hfl]; omega, fun C it D' old rest acc item hi => ?_, fun C it1 it D' old1 rest1 rest acc1 item item1 hi hi1 => ?_, fun C m0 => ?_⟩
    · have hi' := hi
      rw [← List.map_drop] at hi'
      obtain ⟨t, ht, rfl⟩ := List.mem_map.mp hi'
      have w := D.wfT Sg t (hsub t ht)
      fin_run
      exact regs_ok 20 _ _ _ _ w.1 (by omega) (Nat.le_trans (flat_sub (g := fun d => regsV 20 (head0 d)) hi) (by rw [hfl]; omega)) (R'.mono (by omega)) ⟨⟨_, rfl⟩, rfl⟩
    · fin_run
      exact ⟨⟨_, rfl⟩, rfl⟩
    · rw [List.map_id, hfl]
      refine st_local (pre := [_, _, _, _, _, _, _, _, _, _, _]) (by kernel_rfl) (by kernel_rfl) ?_
      exact ⟨_, rfl, rfl⟩
  · rintro H₁ rfl
    refine s_cons ?_
    refine s_assign ?_
    refine e_binop ?_
    fin_run
    refine e_attr ?_
    fin_run
    refine attK2 (l := bodyL 2 (tOf o a b ex sg).1 (.lst ((bOf o a b ex sg bls).1.map embB)) (.adr s3)) (e := .lst ((bOf o a b ex sg bls).1.map embB)) (.tail _ (.tail _ (.head _))) rfl rfl (a_blocks _) ?_
    fin_run
    refine regs_ok 22 _ _ _ _ h22.2.1 (by omega) (by rw [h22.2.2.2]; omega) (R'.mono (by omega)) ?_
    rw [h22.2.2.2]
    refine ob_addl (by omega) ?_
    refine st_local (pre := [_, _, _, _, _, _, _, _, _, _]) (by kernel_rfl) (by kernel_rfl) ?_
    rw [e1]
    refine s_cons ?_
    refine s_return ?_
    refine e_and2 ?_
    fin_run
    refine oc_deq (l := uOf sg) (.tail _ (.head _)) (.head _) uOf_int (by have := R'.units; omega) ⟨rfl, ?_⟩
    refine e_and2 ?_
    fin_run
    refine oc_nonein (l := is) (R'.mono (by omega)) ⟨rfl, ?_⟩
    refine e_and1 ?_
    have hil : is.length ≤ 10000 := by
      rw [← List.length_map (f := AV.int) (as := is), ← e1, List.length_append]
      exact Nat.le_trans (Nat.add_le_add hlen hll) (by decide)
    have hil' : (is.map AV.int).length ≤ 10000 := by rw [List.length_map]; exact hil
    have hiL : ((((tOf o a b ex sg).1.drop (kOf sg)).flatMap regsT) ++ l).length = (is.map AV.int).length := congrArg List.length e1
    rw [hiL] at e3
    have hul : (uOf sg).length ≤ 4 := by
      cases sg with
      | none => decide
      | some x => exact Nat.le_refl 4
    fin_run
    refine ac_sorted (l := is) e2 hil fun l' hp hw => ?_
    have e4 := e3 l' hp hw
    fin_run
    refine ac_len_dct (l := uOf sg) (.head _) (by omega) ?_
    fin_run
    refine ac_len_dct (l := uOf sg) (.head _) (by omega) ?_
    fin_run
    refine ac_len_lst hil' ?_
    fin_run
    refine ac_range2 ?_
    fin_run
    refine ac_list_rng (Int.natCast_nonneg _) (Int.ofNat_le.mpr (Nat.le_trans hul (by decide))) hil' (R'.handled) ?_
    have e5 : ((List.range (is.map AV.int).length).map fun (i : Nat) => AV.int ((uOf sg).length + (i : Int))) = l'.map .int := by
      rw [e4, List.map_map, uOf_len]
      rfl
    rw [e5]
    refine oc_self (n := 22) ?_ (by omega) (R'.mono (by omega)) rfl
    simp only [okV, List.all_eq_true]
    intro x hx
    obtain ⟨i, _, rfl⟩ := List.mem_map.mp hx
    rfl
end
section
set_option linter.all false
/-- the law's body answers True -/
theorem law_all {c : Cx} {A : Around} {sc : List Int} {L : Addr} (R' : Room 100 A) (hz : sc.length ≤ 1000) (hl : ∀ n ∈ sc, n.natAbs.log2 < 2 ^ 21) : Law c A L 0 (lawF L [("script", .scr sc)] none none) :=
  lawA R' hz hl fun sa sx wx a1 a2 a3 a4 a5 a6 o a b sg ho ha hb S => lawB R' ho ha hb fun ex hex hexl => lawC R' fun m bls ns hm hbl hd =>
    have D : Dr o a b ex bls m := ⟨ho, ha, hb, hex, hexl, hd, hbl, hm⟩
    lawD R' D S fun u2 nb s3 bx s2 => lawE R' D S (lawG R' D S (lawI R' D S fun da ns' => lawJ R' D S))
end
section
set_option linter.all false
theorem law_ok {c : Cx} {A : Around} {sc : List Int} (R : Room 101 A) (hz : sc.length ≤ 1000) (hl : ∀ n ∈ sc, n.natAbs.log2 < 2 ^ 21) : AC c A (.adr 335) [.scr sc] [] (fun d _ => d = .bool true) := by
  refine ac_fn (c := c) (f := 335) [Str.ofString "script"] 100 (fun L => lawF L [("script", .scr sc)] none none) R ?hbd ?hk rfl rfl ?hfr (by kernel_rfl) (by kernel_rfl) (by kernel_rfl) ?hnd (by kernel_rfl) (by kernel_rfl) (by kernel_rfl) ?h
  case hbd => exact len1 fun _ => by kernel_rfl
  case hnd =>
    intro L
    show ([Str.ofString "due", Str.ofString "source"] : List Str).Nodup
    decide +kernel
  case hfr => intro L; kernel_rfl
  case hk => intro n L hn; simp only [List.mem_cons, List.not_mem_nil, or_false] at hn; rcases hn with rfl; exact .inl (by kernel_rfl)
  intro L A' R'
  have h := law_all (c := c) (A := A') (L := L) R' hz hl _ rfl
  exact fun s E Q I P P' => h s E Q I (fun s' H' I' S' k => k.elim) fun s' v d H' I' S' hv k => P' s' v d H' I' S' hv ⟨H', [], by rw [List.append_nil], k⟩
theorem weight_all {l : List Int} {n : Int} (h : n ∈ l) : PyData.weight (.int n) ≤ PyData.weightAll (l.map .int) := by
  induction l with
  | nil => cases h
  | cons x l ih =>
    rw [List.map_cons, PyData.weightAll]
    rcases List.mem_cons.mp h with rfl | h
    · omega
    · have := ih h; omega
theorem script_small {l : List Int} (h : (PyData.list (l.map .int)).layable0 = true) : ∀ n ∈ l, n.natAbs.log2 < 2 ^ 21 := by
  intro n hn
  have h1 := weight_all hn
  simp only [PyData.layable0, Bool.and_eq_true, decide_eq_true_eq] at h
  have h2 : PyData.weightAll (l.map PyData.int) ≤ 2 ^ 20 := by
    have := h.2
    rw [PyData.weight] at this
    exact this
  rw [PyData.weight] at h1
  split at h1
  · rename_i e
    have : n = 0 := by simpa using e
    subst this
    decide
  · omega
theorem go_ok {prog : Program} {w : World} {s₁ : Shared} {mg mb : Str → Option Value} {view : Program} {loose : List Str} {mean : ExcName → Option Value} {fa a : Addr} {vs : List Value} {sc : List Int} {A : Around} {E : Value → Shared → Prop} {Q : Value → Shared → Prop}
    (KX : (Mine.hd.heap_1 w.params).In s₁.heap) (T : Top view loose mean mg mb s₁.heap) (hmg : mg (Str.ofString "law") = some (.ref fa)) (hL : s₁.heap.IsList a vs.toArray) (hI : IntsAre vs sc) (hz : sc.length ≤ 1000) (hl : ∀ n ∈ sc, n.natAbs.log2 < 2 ^ 21) (R : Room 101 A)
    (fin : ∀ s', (∀ b o, s₁.heap.get? b = some o → s'.heap.get? b = some o) → s'.os = s₁.os → s'.gens = s₁.gens → Q (.bool true) s') : wpAny (model prog w) A (call (.ref fa) [.ref a]) Q E s₁ := by
  have e : mg (Str.ofString "law") = some (.ref 335) := mg_of KX T.g (by kernel_rfl)
  rw [e] at hmg
  cases hmg
  have I : Inv ⟨prog, w, s₁, mg, mb, KX, T.g, T.b, T.nolimit, T.builtins⟩ [] s₁ := ⟨⟨rfl, rfl, rfl⟩, fun _ _ h => h, (fun _ h => nomatch h), (fun _ h => nomatch h), List.nodup_nil, (fun _ h => nomatch h)⟩
  refine law_ok (c := ⟨prog, w, s₁, mg, mb, KX, T.g, T.b, T.nolimit, T.builtins⟩) (A := A) (sc := sc) R hz hl s₁ [.ref 335, .ref a] E Q I ⟨_, _, rfl, rfl, _, _, rfl, ⟨a, vs, rfl, List.not_mem_nil, hL, hI⟩, rfl⟩ fun s' v d H' I' S' hv k => ?_
  cases k
  cases hv
  exact fin s' I'.base I'.rest.2.2 I'.rest.1
end
end Mine
end
section
open PySem PySem.W PySem.Calls PyProof.Rows
set_option maxRecDepth 100000
set_option maxHeartbeats 8000000
namespace Mine
-- names held, so that the head lays no twins of its own constants (their proofs are quadratic)
theorem go.tw10013141965534561143 : True := trivial
theorem go.tw10023030183023834072 : True := trivial
theorem go.tw10150587088903491882 : True := trivial
theorem go.tw10151590725054658973 : True := trivial
theorem go.tw1026647196757137804 : True := trivial
theorem go.tw10321342310022699628 : True := trivial
theorem go.tw10450390705859241510 : True := trivial
theorem go.tw10511435375682418455 : True := trivial
theorem go.tw10584294725982564617 : True := trivial
theorem go.tw1068862349082813783 : True := trivial
theorem go.tw10695470134862671826 : True := trivial
theorem go.tw10790962338809031507 : True := trivial
theorem go.tw10841332209832711035 : True := trivial
theorem go.tw10977448669636701384 : True := trivial
theorem go.tw11017915275324742753 : True := trivial
theorem go.tw11062646898967359301 : True := trivial
theorem go.tw11070897214279100713 : True := trivial
theorem go.tw11118938859718820679 : True := trivial
theorem go.tw11158162771436293970 : True := trivial
theorem go.tw11193796161085401759 : True := trivial
theorem go.tw11207181897152444969 : True := trivial
theorem go.tw11223066610325710060 : True := trivial
theorem go.tw11250353860303057712 : True := trivial
theorem go.tw11297048491992716603 : True := trivial
theorem go.tw11377204334065371989 : True := trivial
theorem go.tw11398345902258307736 : True := trivial
theorem go.tw11488746107072983736 : True := trivial
theorem go.tw11514357725929346396 : True := trivial
theorem go.tw11570796475036077061 : True := trivial
theorem go.tw1159480253435912002 : True := trivial
theorem go.tw11595017385738463547 : True := trivial
theorem go.tw116665817152024671 : True := trivial
theorem go.tw11666941160635057034 : True := trivial
theorem go.tw11765395828696085270 : True := trivial
theorem go.tw11779806704890454224 : True := trivial
theorem go.tw11805365390197703432 : True := trivial
theorem go.tw11841938759519639101 : True := trivial
theorem go.tw11860311468703693670 : True := trivial
theorem go.tw11887239301765898603 : True := trivial
theorem go.tw11900582823092892591 : True := trivial
theorem go.tw11918284931481265653 : True := trivial
theorem go.tw12022650224578339517 : True := trivial
theorem go.tw12041524682531831955 : True := trivial
theorem go.tw12047166493661642947 : True := trivial
theorem go.tw12111288430409241834 : True := trivial
theorem go.tw1212891352812526402 : True := trivial
theorem go.tw12138542740005471742 : True := trivial
theorem go.tw12142370556391545616 : True := trivial
theorem go.tw12406817522191020202 : True := trivial
theorem go.tw12444658909571370742 : True := trivial
theorem go.tw12597490555335192062 : True := trivial
theorem go.tw12605570538089688823 : True := trivial
theorem go.tw12643035205435305973 : True := trivial
theorem go.tw12826967576908564364 : True := trivial
theorem go.tw12842355556525746967 : True := trivial
theorem go.tw12850891809264655065 : True := trivial
theorem go.tw12862988319253004935 : True := trivial
theorem go.tw12968216985309708197 : True := trivial
theorem go.tw12979996230898546648 : True := trivial
theorem go.tw12985016639916131933 : True := trivial
theorem go.tw12993608630325504715 : True := trivial
theorem go.tw13015593750660303848 : True := trivial
theorem go.tw13035626856510559865 : True := trivial
theorem go.tw1304328876107414062 : True := trivial
theorem go.tw13091797612314929374 : True := trivial
theorem go.tw13131407112785927979 : True := trivial
theorem go.tw1318314378519745212 : True := trivial
theorem go.tw13244826578425992112 : True := trivial
theorem go.tw13246349066613663003 : True := trivial
theorem go.tw13252540993179512316 : True := trivial
theorem go.tw13254880653069160477 : True := trivial
theorem go.tw13288875124701769475 : True := trivial
theorem go.tw13452999960272194572 : True := trivial
theorem go.tw13489904137901642522 : True := trivial
theorem go.tw13533190373284556911 : True := trivial
theorem go.tw13577947409049390852 : True := trivial
theorem go.tw13621058165246911907 : True := trivial
theorem go.tw13653005173742418279 : True := trivial
theorem go.tw13802760198125691847 : True := trivial
theorem go.tw13837350026653545653 : True := trivial
theorem go.tw14072048920540022877 : True := trivial
theorem go.tw14072259834069588193 : True := trivial
theorem go.tw14095527418617213384 : True := trivial
theorem go.tw14212028789546165601 : True := trivial
theorem go.tw14256976129453552497 : True := trivial
theorem go.tw14271084327219118541 : True := trivial
theorem go.tw14530939029531264936 : True := trivial
theorem go.tw14549841573715543887 : True := trivial
theorem go.tw14581595549215161228 : True := trivial
theorem go.tw14588642168579220171 : True := trivial
theorem go.tw14610867083194633259 : True := trivial
theorem go.tw14699523026521447030 : True := trivial
theorem go.tw14792172155745389774 : True := trivial
theorem go.tw14864502500686147276 : True := trivial
theorem go.tw14899311846326938756 : True := trivial
theorem go.tw14914842262095744992 : True := trivial
theorem go.tw15044495724516194049 : True := trivial
theorem go.tw1505707155935263835 : True := trivial
theorem go.tw15065298461513194574 : True := trivial
theorem go.tw15147230031350113609 : True := trivial
theorem go.tw1523096360142330549 : True := trivial
theorem go.tw15274109698382179069 : True := trivial
theorem go.tw15288310289017009797 : True := trivial
theorem go.tw15336461733892503271 : True := trivial
theorem go.tw15463769565635949002 : True := trivial
theorem go.tw1547176844810960656 : True := trivial
theorem go.tw15528621069748645170 : True := trivial
theorem go.tw15605211283554415260 : True := trivial
theorem go.tw15607867129348298515 : True := trivial
theorem go.tw15640719343182190797 : True := trivial
theorem go.tw15657477165280572705 : True := trivial
theorem go.tw15748842697667225083 : True := trivial
theorem go.tw15801895198939909880 : True := trivial
theorem go.tw15854918214955441383 : True := trivial
theorem go.tw15881785829279372805 : True := trivial
theorem go.tw15973795711563652481 : True := trivial
theorem go.tw1600066662621846134 : True := trivial
theorem go.tw16033922935050601736 : True := trivial
theorem go.tw1616840469744965496 : True := trivial
theorem go.tw16331548564479461367 : True := trivial
theorem go.tw16344911460599958470 : True := trivial
theorem go.tw16490249698526778424 : True := trivial
theorem go.tw16595568877557449854 : True := trivial
theorem go.tw1660524433713880172 : True := trivial
theorem go.tw16638524382843052331 : True := trivial
theorem go.tw16644674007342797701 : True := trivial
theorem go.tw16651740252536449761 : True := trivial
theorem go.tw16707375422511795361 : True := trivial
theorem go.tw16843488073482301840 : True := trivial
theorem go.tw16878621468795433454 : True := trivial
theorem go.tw16914144672340997529 : True := trivial
theorem go.tw16948351884070481111 : True := trivial
theorem go.tw16966379780589304141 : True := trivial
theorem go.tw16985160290984871472 : True := trivial
theorem go.tw16996884985156569478 : True := trivial
theorem go.tw17078824902306133550 : True := trivial
theorem go.tw17249198172198959359 : True := trivial
theorem go.tw17326129871737587345 : True := trivial
theorem go.tw17364260398433374067 : True := trivial
theorem go.tw17385855169327285940 : True := trivial
theorem go.tw17408264440351795726 : True := trivial
theorem go.tw17528123241234431441 : True := trivial
theorem go.tw17567045220282873143 : True := trivial
theorem go.tw17625589323191495619 : True := trivial
theorem go.tw17711315622232552018 : True := trivial
theorem go.tw17713649615248325466 : True := trivial
theorem go.tw17811323159797271133 : True := trivial
theorem go.tw17840771725469911900 : True := trivial
theorem go.tw17852123233956376317 : True := trivial
theorem go.tw17899595973202607380 : True := trivial
theorem go.tw17902685243396129851 : True := trivial
theorem go.tw17988444863797559951 : True := trivial
theorem go.tw18018740623648974409 : True := trivial
theorem go.tw18099282376624618755 : True := trivial
theorem go.tw18121825189235368649 : True := trivial
theorem go.tw18287888720460239412 : True := trivial
theorem go.tw18321667043810271612 : True := trivial
theorem go.tw18376466027625043235 : True := trivial
theorem go.tw18389918505042369589 : True := trivial
theorem go.tw1899694054800106219 : True := trivial
theorem go.tw1930352777092261956 : True := trivial
theorem go.tw1956502279414677411 : True := trivial
theorem go.tw198953160016362630 : True := trivial
theorem go.tw2004323750187528468 : True := trivial
theorem go.tw2158309068710165794 : True := trivial
theorem go.tw2201756097114706204 : True := trivial
theorem go.tw2318405031202532839 : True := trivial
theorem go.tw2417548367454455823 : True := trivial
theorem go.tw2434454577596255592 : True := trivial
theorem go.tw2445597724081340381 : True := trivial
theorem go.tw2459120572281790638 : True := trivial
theorem go.tw2470270053218085535 : True := trivial
theorem go.tw251223861076592491 : True := trivial
theorem go.tw2596576752514998514 : True := trivial
theorem go.tw2597463586571617950 : True := trivial
theorem go.tw2607874479887550198 : True := trivial
theorem go.tw2627985634905215540 : True := trivial
theorem go.tw2674624629608824676 : True := trivial
theorem go.tw2695080696170076166 : True := trivial
theorem go.tw2725279182593108791 : True := trivial
theorem go.tw2843334866305654066 : True := trivial
theorem go.tw2850240170647141194 : True := trivial
theorem go.tw2999892936170001949 : True := trivial
theorem go.tw3138647550797517745 : True := trivial
theorem go.tw323417449798562731 : True := trivial
theorem go.tw3331575061702620314 : True := trivial
theorem go.tw3404243425764770092 : True := trivial
theorem go.tw3501916529792883405 : True := trivial
theorem go.tw3509712638598401324 : True := trivial
theorem go.tw3642183482561279543 : True := trivial
theorem go.tw3655359536413812398 : True := trivial
theorem go.tw3678194001251860922 : True := trivial
theorem go.tw368139654504374289 : True := trivial
theorem go.tw3845076819085193066 : True := trivial
theorem go.tw3972521622163488897 : True := trivial
theorem go.tw4123802417952423356 : True := trivial
theorem go.tw4233082351217835011 : True := trivial
theorem go.tw4254923169180631234 : True := trivial
theorem go.tw4255720244455609589 : True := trivial
theorem go.tw4273280351846841646 : True := trivial
theorem go.tw4276871490739304906 : True := trivial
theorem go.tw4321954356527233535 : True := trivial
theorem go.tw4406477812251090103 : True := trivial
theorem go.tw4484855686393372940 : True := trivial
theorem go.tw4497296683386470912 : True := trivial
theorem go.tw4501693605375567567 : True := trivial
theorem go.tw4547234665925602256 : True := trivial
theorem go.tw4631475850371381492 : True := trivial
theorem go.tw4693765895220792052 : True := trivial
theorem go.tw4726560491623529712 : True := trivial
theorem go.tw4793817790412734147 : True := trivial
theorem go.tw4809381741162136369 : True := trivial
theorem go.tw4826114209854086833 : True := trivial
theorem go.tw4840177385205084148 : True := trivial
theorem go.tw4982739001215685592 : True := trivial
theorem go.tw498376840923386572 : True := trivial
theorem go.tw5026100245474550566 : True := trivial
theorem go.tw5147182702490143054 : True := trivial
theorem go.tw5176426026613890816 : True := trivial
theorem go.tw5267973556674519581 : True := trivial
theorem go.tw527198824392085090 : True := trivial
theorem go.tw5309606682332901016 : True := trivial
theorem go.tw5317816350514000529 : True := trivial
theorem go.tw5330663866594035918 : True := trivial
theorem go.tw541895691580259414 : True := trivial
theorem go.tw5442610269387997338 : True := trivial
theorem go.tw5444745943143695624 : True := trivial
theorem go.tw5498321254478136440 : True := trivial
theorem go.tw5533429624084437567 : True := trivial
theorem go.tw5572939255205528469 : True := trivial
theorem go.tw5655820146703920429 : True := trivial
theorem go.tw5698949550246952375 : True := trivial
theorem go.tw5716807986109319684 : True := trivial
theorem go.tw5754561495750798247 : True := trivial
theorem go.tw584013970865945204 : True := trivial
theorem go.tw5881758860848548101 : True := trivial
theorem go.tw5883252576637561829 : True := trivial
theorem go.tw5965387704028168018 : True := trivial
theorem go.tw6126609423928466773 : True := trivial
theorem go.tw6128261125556168065 : True := trivial
theorem go.tw6134290801355342733 : True := trivial
theorem go.tw6197000483589603698 : True := trivial
theorem go.tw6199178584747323521 : True := trivial
theorem go.tw6204177839675690262 : True := trivial
theorem go.tw6240360979801141464 : True := trivial
theorem go.tw6393050968330821533 : True := trivial
theorem go.tw645291903919823186 : True := trivial
theorem go.tw649537583566322968 : True := trivial
theorem go.tw6568231065850667749 : True := trivial
theorem go.tw6611568902242021996 : True := trivial
theorem go.tw6644047881778099871 : True := trivial
theorem go.tw6658576366019259335 : True := trivial
theorem go.tw6704199973965328779 : True := trivial
theorem go.tw6710130258060209327 : True := trivial
theorem go.tw684454114878795862 : True := trivial
theorem go.tw684982807961291441 : True := trivial
theorem go.tw6913136086317331562 : True := trivial
theorem go.tw6976952431216122449 : True := trivial
theorem go.tw7016992002988801556 : True := trivial
theorem go.tw7020150417786384514 : True := trivial
theorem go.tw7046456769058013525 : True := trivial
theorem go.tw7091175819033746555 : True := trivial
theorem go.tw7138277508080628298 : True := trivial
theorem go.tw7171499339947134202 : True := trivial
theorem go.tw7233947078241720083 : True := trivial
theorem go.tw7246723717337876198 : True := trivial
theorem go.tw7262980834751909444 : True := trivial
theorem go.tw7292979258229339762 : True := trivial
theorem go.tw7330319177989798573 : True := trivial
theorem go.tw7392507478594050734 : True := trivial
theorem go.tw7417046414557272420 : True := trivial
theorem go.tw7512968548493968326 : True := trivial
theorem go.tw753963799610111843 : True := trivial
theorem go.tw7713578379843985010 : True := trivial
theorem go.tw7730381627876449757 : True := trivial
theorem go.tw7742113552118018826 : True := trivial
theorem go.tw7777673502039530221 : True := trivial
theorem go.tw8081017506683087323 : True := trivial
theorem go.tw8173339395768245591 : True := trivial
theorem go.tw8178665176350174879 : True := trivial
theorem go.tw8185560178259301851 : True := trivial
theorem go.tw8230624919496929523 : True := trivial
theorem go.tw8280678215446212882 : True := trivial
theorem go.tw8314105912365131414 : True := trivial
theorem go.tw8466776721873955762 : True := trivial
theorem go.tw8525891296552623502 : True := trivial
theorem go.tw8544928080377492842 : True := trivial
theorem go.tw8606968494689352023 : True := trivial
theorem go.tw8718789387247619393 : True := trivial
theorem go.tw8771553220602345102 : True := trivial
theorem go.tw8843154659608940295 : True := trivial
theorem go.tw8844580050124060764 : True := trivial
theorem go.tw8998143604221443039 : True := trivial
theorem go.tw9027631103421281815 : True := trivial
theorem go.tw9080827544826687770 : True := trivial
theorem go.tw9152174855455288971 : True := trivial
theorem go.tw918752668906677662 : True := trivial
theorem go.tw9247950045898918338 : True := trivial
theorem go.tw9390522219908265294 : True := trivial
theorem go.tw9442099859058695472 : True := trivial
theorem go.tw9460700074220871976 : True := trivial
theorem go.tw9471442477376359541 : True := trivial
theorem go.tw9537356449090278202 : True := trivial
theorem go.tw9559915317741541038 : True := trivial
theorem go.tw958851251804781734 : True := trivial
theorem go.tw9628614958496823640 : True := trivial
theorem go.tw9751558734479525370 : True := trivial
theorem go.tw9755251879766424720 : True := trivial
theorem go.tw9781445606723498332 : True := trivial
theorem go.tw9799211036282041551 : True := trivial
theorem go.tw9868857178645760389 : True := trivial
theorem go.tw9986379512407796970 : True := trivial
set_option Elab.async true in
theorem go : PySem.Challenge.rw_ot0017_01.Holds := by
  w_on; o_law; k_head; (case hw => w_witness2)
  intro w s₀ s₁ mg mb G Y fa o pm cd doc dV kV ho hd hcd hD hmg hg args vals as hpre hlay hrd hwl hlo
  have KX := kIn_of Y
  refine Ground.open G ?_
  intro T B D TE TW
  wrow_args hpre hlay hrd hwl hlo
  rename_i sc _ _ lay _ _ _ _ a vs _ hL _ _ _ hI _ hz _
  refine go_ok (A := callerA) (sc := sc) KX T hmg hL hI (by omega) (script_small lay) ⟨by decide +kernel, by decide +kernel, rfl, rfl⟩ fun s' k1 k2 k3 => ?_
  refine GoodW.toG ⟨.inl ⟨_, .bool true, [], rfl, ?_, .bool true, ?_, ?_⟩, k1, k2, k3.trans hg⟩
  · exact fun _ => rfl
  · first | kernel_rfl | with_unfolding_all rfl
  · exact fun _ => ⟨List.nodup_nil, fun _ h => nomatch h⟩
end Mine
end
theorem PySem.Challenge.cw_ot0017_01_holds : PySem.Challenge.rw_ot0017_01.Holds :=
  Mine.go
