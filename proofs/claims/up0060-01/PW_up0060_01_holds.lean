import PyProof.Rows.All
import Wide.All
import OpenK.AllK
import Wide.FinOn
import PySem.Challenge.RW_up0060_01
set_option Elab.async false
set_option maxRecDepth 1000000
set_option linter.unusedVariables false
set_option maxHeartbeats 4000000
section
open PySem PySem.Calls PyProof.Rows PySem.W
namespace Mine

/-- abstract values: tuples are pure, whatever may change is a number of the store -/
inductive PV where
  | none
  | bool (b : Bool)
  | int (i : Int)
  | str (x : Str)
  | tup (l : List PV)
  | lst (l : List PV)
  | ref (i : Nat)

structure GX where
  prog : Program
  w : World
  K : Frag
  p : Program
  loose : List Str
  mean : ExcName → Option Value
  mg : Str → Option Value
  mb : Str → Option Value

noncomputable abbrev GX.M (G : GX) : Model := model G.prog G.w

structure FX where
  A₀ : Around
  A : Around
  base : Heap
  h₀ : Heap
  outer : List Env
  env : Env
  L : Addr
  gens : Array GenState
  os : OsState

structure FX.Ok (G : GX) (F : FX) (n : Nat) : Prop where
  B : Below F.A₀ F.base F.outer F.h₀
  X : G.K.In F.h₀
  T : Top G.p G.loose G.mean G.mg G.mb F.h₀
  fr : F.A.frames = some (F.env :: F.outer)
  ef : F.env.frame = some F.L
  ek : F.env.scope.kind = .function
  el : F.env.locals = F.L
  hh : F.A.handled = none
  hd : F.A.depth + 4 * n ≤ 600
  hu : F.A.units + 12 * n ≤ 6000

theorem FX.Ok.le {G : GX} {F : FX} {n k : Nat} (O : F.Ok G n) (h : k ≤ n) : F.Ok G k :=
  ⟨O.B, O.X, O.T, O.fr, O.ef, O.ek, O.el, O.hh, by have := O.hd; omega, by have := O.hu; omega⟩

inductive Cell where
  | list (l : List PV)
  | dict (l : List (Int × PV))
  | tdict (l : List (List Int × PV))
  | names (l : List (Str × PV))
  | inst (C : Addr) (d : Nat)

mutual
noncomputable def VR (h : Heap) (as : List Addr) : PV → Value → Prop
  | .none, v => v = .none
  | .bool b, v => v = .bool b
  | .int i, v => ∃ t, v = .int i t
  | .str x, v => ∃ t, v = .str x t
  | .ref i, v => ∃ a, as[i]? = some a ∧ v = .ref a
  | .tup l, v => ∃ a vs, v = .ref a ∧ a ∉ as ∧ IsTup h a (List.toArray vs) ∧ VRs h as l vs
  | .lst l, v => ∃ a vs, v = .ref a ∧ a ∉ as ∧ h.IsList a (List.toArray vs) ∧ VRs h as l vs
noncomputable def VRs (h : Heap) (as : List Addr) : List PV → List Value → Prop
  | [], vs => vs = []
  | p :: l, vs => ∃ v r, vs = v :: r ∧ VR h as p v ∧ VRs h as l r
end

theorem VRs.length {h : Heap} {as : List Addr} : ∀ {l : List PV} {vs : List Value}, VRs h as l vs → vs.length = l.length
  | [], vs, H => by rw [VRs] at H; subst H; rfl
  | p :: l, vs, H => by rw [VRs] at H; obtain ⟨v, r, rfl, _, hr⟩ := H; simp [VRs.length hr]
theorem VRs.cons {h : Heap} {as : List Addr} {p : PV} {v : Value} {l : List PV} {vs : List Value} (a : VR h as p v) (b : VRs h as l vs) : VRs h as (p :: l) (v :: vs) := by
  rw [VRs]; exact ⟨_, _, rfl, a, b⟩
theorem VRs.nil {h : Heap} {as : List Addr} : VRs h as [] [] := by rw [VRs]
theorem VRs.append {h : Heap} {as : List Addr} : ∀ {l l' : List PV} {vs vs' : List Value}, VRs h as l vs → VRs h as l' vs' → VRs h as (l ++ l') (vs ++ vs')
  | [], _, vs, _, H, H' => by rw [VRs] at H; subst H; exact H'
  | p :: l, _, vs, _, H, H' => by
    rw [VRs] at H; obtain ⟨v, r, rfl, hv, hr⟩ := H
    exact .cons hv (VRs.append hr H')
theorem VRs.get {h : Heap} {as : List Addr} : ∀ {l : List PV} {vs : List Value} {i : Nat} {p : PV}, VRs h as l vs → l[i]? = some p → ∃ v, vs[i]? = some v ∧ VR h as p v
  | [], _, _, _, _, e => by simp at e
  | q :: l, vs, i, p, H, e => by
    rw [VRs] at H; obtain ⟨v, r, rfl, hv, hr⟩ := H
    cases i with
    | zero => simp at e; subst e; exact ⟨v, rfl, hv⟩
    | succ i => simpa using VRs.get hr (by simpa using e)

/-- all that is not a cell of the store, nor the frame's own names, stands; cells are only added, at new places -/
structure Stp (L : Addr) (h : Heap) (as : List Addr) (h' : Heap) (as' : List Addr) : Prop where
  keep : ∀ b o, h.get? b = some o → b ∉ as → b ≠ L → h'.get? b = some o
  pre : as <+: as'
  fresh : ∀ a ∈ as', a ∉ as → h.get? a = none
  ns : ∃ o es ep, h.get? L = some o ∧ o.data = .dict es ep

theorem Stp.refl {L : Addr} {h : Heap} {as : List Addr} (n : ∃ o es ep, h.get? L = some o ∧ o.data = .dict es ep) : Stp L h as h as := ⟨fun _ _ e _ _ => e, List.prefix_refl _, fun _ x y => absurd x y, n⟩
theorem Stp.trans {L : Addr} {h h' h'' : Heap} {as as' as'' : List Addr} (x : Stp L h as h' as') (y : Stp L h' as' h'' as'') : Stp L h as h'' as'' := by
  refine ⟨fun b o e n nl => y.keep b o (x.keep b o e n nl) (fun q => ?_) nl, x.pre.trans y.pre, fun a ha n => ?_, x.ns⟩
  · have := x.fresh b q n; rw [e] at this; cases this
  · by_cases q : a ∈ as'
    · exact x.fresh a q n
    · cases e : h.get? a with
      | none => rfl
      | some o =>
        by_cases hl : a = L
        · obtain ⟨o', es, ep, hL, _⟩ := y.ns
          have := y.fresh a ha q
          rw [hl, hL] at this; cases this
        · have := y.fresh a ha q; rw [x.keep a o e n hl] at this; cases this
theorem Stp.off {L : Addr} {h h' : Heap} {as as' : List Addr} (x : Stp L h as h' as') {a : Addr} {o : Obj} (e : h.get? a = some o) (n : ∀ es ep, o.data ≠ .dict es ep) : a ≠ L := by
  rintro rfl
  obtain ⟨o', es, ep, hL, hd⟩ := x.ns
  rw [e] at hL; cases hL
  exact n _ _ hd
theorem Stp.mem {L : Addr} {h h' : Heap} {as as' : List Addr} (x : Stp L h as h' as') {a : Addr} (m : a ∈ as) : a ∈ as' := x.pre.subset m
theorem Stp.notMem {L : Addr} {h h' : Heap} {as as' : List Addr} (x : Stp L h as h' as') {a : Addr} {o : Obj} (e : h.get? a = some o) (n : a ∉ as) : a ∉ as' := fun q => by
  have := x.fresh a q n; rw [e] at this; cases this

theorem tup_stp {h h' : Heap} {a : Addr} {items : Array Value} (x : IsTup h a items) (e : ∀ o, h.get? a = some o → h'.get? a = some o) : IsTup h' a items := by
  obtain ⟨o, ho, r⟩ := x; exact ⟨o, e _ ho, r⟩

theorem lst_stp {h h' : Heap} {a : Addr} {items : Array Value} (x : h.IsList a items) (e : ∀ o, h.get? a = some o → h'.get? a = some o) : h'.IsList a items := by
  obtain ⟨o, ho, r⟩ := x; exact ⟨o, e _ ho, r⟩
theorem getElem?_of_prefix {α : Type} {l l' : List α} (p : l <+: l') {i : Nat} {a : α} (e : l[i]? = some a) : l'[i]? = some a := by
  obtain ⟨r, rfl⟩ := p
  rw [List.getElem?_append_left (List.getElem?_eq_some_iff.mp e).1]; exact e

mutual
theorem VR.stp {L : Addr} {h h' : Heap} {as as' : List Addr} (x : Stp L h as h' as') : ∀ {p : PV} {v : Value}, VR h as p v → VR h' as' p v
  | .none, _, H => by rw [VR] at H ⊢; exact H
  | .bool _, _, H => by rw [VR] at H ⊢; exact H
  | .int _, _, H => by rw [VR] at H ⊢; exact H
  | .str _, _, H => by rw [VR] at H ⊢; exact H
  | .ref i, _, H => by
    rw [VR] at H ⊢
    obtain ⟨a, e, r⟩ := H
    exact ⟨a, getElem?_of_prefix x.pre e, r⟩
  | .tup l, _, H => by
    rw [VR] at H ⊢
    obtain ⟨a, vs, rfl, n, t, r⟩ := H
    obtain ⟨o, ho, hc, k, hd⟩ := id t
    exact ⟨a, vs, rfl, x.notMem ho n, tup_stp t fun o e => x.keep a o e n (x.off ho (by rw [hd]; intro _ _ q; cases q)), VRs.stp x r⟩
  | .lst l, _, H => by
    rw [VR] at H ⊢
    obtain ⟨a, vs, rfl, n, t, r⟩ := H
    obtain ⟨o, ho, hc, k, hd⟩ := id t
    exact ⟨a, vs, rfl, x.notMem ho n, lst_stp t fun o e => x.keep a o e n (x.off ho (by rw [hd]; intro _ _ q; cases q)), VRs.stp x r⟩
theorem VRs.stp {L : Addr} {h h' : Heap} {as as' : List Addr} (x : Stp L h as h' as') : ∀ {l : List PV} {vs : List Value}, VRs h as l vs → VRs h' as' l vs
  | [], _, H => by rw [VRs] at H ⊢; exact H
  | p :: l, _, H => by
    rw [VRs] at H ⊢
    obtain ⟨v, r, rfl, hv, hr⟩ := H
    exact ⟨v, r, rfl, VR.stp x hv, VRs.stp x hr⟩
end

/-- the pairs of a dict, value by value -/
noncomputable def KRel {α : Type} (h : Heap) (as : List Addr) : List (α × PV) → List (α × Value) → Prop
  | [], vs => vs = []
  | p :: l, vs => ∃ v r, vs = (p.1, v) :: r ∧ VR h as p.2 v ∧ KRel h as l r
theorem KRel.stp {α : Type} {L : Addr} {h h' : Heap} {as as' : List Addr} (x : Stp L h as h' as') : ∀ {l : List (α × PV)} {vs : List (α × Value)}, KRel h as l vs → KRel h' as' l vs
  | [], _, H => H
  | p :: l, _, H => by
    obtain ⟨v, r, rfl, hv, hr⟩ := H
    exact ⟨v, r, rfl, VR.stp x hv, KRel.stp x hr⟩

/-- the dict of an instance: names to values, each name once -/
noncomputable def NRel (h : Heap) (as : List Addr) : List (Str × PV) → List DictEntry → Prop
  | [], es => es = []
  | p :: l, es => ∃ hs t v r, es = ⟨hs, .str p.1 t, v⟩ :: r ∧ VR h as p.2 v ∧ NRel h as l r
theorem NRel.stp {L : Addr} {h h' : Heap} {as as' : List Addr} (x : Stp L h as h' as') : ∀ {l : List (Str × PV)} {es : List DictEntry}, NRel h as l es → NRel h' as' l es
  | [], _, H => H
  | p :: l, _, H => by
    obtain ⟨hs, t, v, r, rfl, hv, hr⟩ := H
    exact ⟨hs, t, v, r, rfl, VR.stp x hv, NRel.stp x hr⟩

/-- a dict keyed by tuples of ints -/
noncomputable def TRel (h : Heap) (as : List Addr) : List (List Int × PV) → List (List Int × Addr × Value) → Prop
  | [], vs => vs = []
  | p :: l, vs => ∃ k v r, vs = (p.1, k, v) :: r ∧ k ∉ as ∧ VR h as p.2 v ∧ TRel h as l r

noncomputable def CR (G : GX) (h : Heap) (as : List Addr) (a : Addr) : Cell → Prop
  | .list l => ∃ vs n, h.get? a = some (W.listOf (List.toArray vs) n) ∧ VRs h as l vs
  | .dict l => (a == sysModules) = false ∧ ∃ kvs, h.DictOf (intKind G.prog G.w) a kvs ∧ KRel h as l kvs
  | .tdict l => (a == sysModules) = false ∧ ∃ kvs, h.DictOfH (tupleKind (intKind G.prog G.w)) a kvs ∧ TRel h as l kvs
  | .names l => ∃ es n, h.get? a = some (dictOf es n) ∧ NRel h as l es
  | .inst C d => ∃ dx, as[d]? = some dx ∧ h.get? a = some (instObj C dx)


theorem TRel.stp {L : Addr} {h h' : Heap} {as as' : List Addr} (x : Stp L h as h' as') : ∀ {l : List (List Int × PV)} {vs : List (List Int × Addr × Value)}, (∀ y ∈ vs, (h.get? y.2.1).isSome = true) → TRel h as l vs → TRel h' as' l vs
  | [], _, _, H => H
  | p :: l, _, k, H => by
    obtain ⟨a, v, r, rfl, na, hv, hr⟩ := H
    refine ⟨a, v, r, rfl, ?_, VR.stp x hv, TRel.stp x (fun y m => k y (.tail _ m)) hr⟩
    obtain ⟨o, ho⟩ := Option.isSome_iff_exists.mp (k _ (.head _))
    exact x.notMem ho na
theorem TRel.out {h : Heap} {as : List Addr} : ∀ {l : List (List Int × PV)} {vs : List (List Int × Addr × Value)}, TRel h as l vs → ∀ y ∈ vs, y.2.1 ∉ as
  | [], _, H, y, m => by cases (show _ = [] from H); cases m
  | p :: l, _, H, y, m => by
    obtain ⟨a, v, r, rfl, na, hv, hr⟩ := H
    rcases List.mem_cons.mp m with rfl | m
    · exact na
    · exact hr.out y m

theorem dictOf_stp {G : GX} {h h' : Heap} {a : Addr} {kvs : List (Int × Value)} (x : h.DictOf (intKind G.prog G.w) a kvs) (e : ∀ o, h.get? a = some o → h'.get? a = some o) : h'.DictOf (intKind G.prog G.w) a kvs := by
  obtain ⟨o, es, ep, ho, r⟩ := x
  exact ⟨o, es, ep, e _ ho, r⟩

/-- a cell that was not touched still says what it said -/
theorem CR.stp {G : GX} {L : Addr} {h h' : Heap} {as as' : List Addr} (x : Stp L h as h' as') {a : Addr} (e : ∀ o, h.get? a = some o → h'.get? a = some o) : ∀ {c : Cell}, CR G h as a c → CR G h' as' a c
  | .list l, H => by
    obtain ⟨vs, n, ho, q⟩ := H
    exact ⟨vs, n, e _ ho, q.stp x⟩
  | .dict l, H => by
    obtain ⟨lo, kvs, d, q⟩ := H
    exact ⟨lo, kvs, dictOf_stp d e, q.stp x⟩
  | .tdict l, H => by
    obtain ⟨lo, kvs, d, q⟩ := H
    obtain ⟨o, es, ep, ho, r1, r2, r3, r4, r5⟩ := d
    have live : ∀ y ∈ kvs, (h.get? y.2.1).isSome = true := fun y m => by
      obtain ⟨ob, _, _, hb, _⟩ := r4 y m
      rw [hb]; rfl
    refine ⟨lo, kvs, ⟨o, es, ep, e _ ho, r1, r2, r3, fun y m => ?_, r5⟩, q.stp x live⟩
    obtain ⟨ob, items, n, hb, r⟩ := r4 y m
    exact ⟨ob, items, n, x.keep _ _ hb (q.out y m) (x.off hb (by rw [r.2.1]; intro _ _ z; cases z)), r⟩
  | .names l, H => by
    obtain ⟨es, n, g, q⟩ := H
    exact ⟨es, n, e _ g, q.stp x⟩
  | .inst C d, H => by
    obtain ⟨dx, q, g⟩ := H
    exact ⟨dx, getElem?_of_prefix x.pre q, e _ g⟩

theorem CR.there {G : GX} {h : Heap} {as : List Addr} {a : Addr} : ∀ {c : Cell}, CR G h as a c → ∃ o, h.get? a = some o
  | .list _, ⟨_, _, ho, _⟩ => ⟨_, ho⟩
  | .dict _, ⟨_, _, ⟨o, _, _, ho, _⟩, _⟩ => ⟨o, ho⟩
  | .tdict _, ⟨_, _, ⟨o, _, _, ho, _⟩, _⟩ => ⟨o, ho⟩
  | .names _, ⟨_, _, ho, _⟩ => ⟨_, ho⟩
  | .inst _ _, ⟨_, _, ho⟩ => ⟨_, ho⟩

structure Inv (G : GX) (F : FX) (m : Str → Option Value) (as : List Addr) (σ : List Cell) (s : Shared) : Prop where
  fr : Fr F.h₀ F.L s.heap m
  nd : as.Nodup
  len : as.length = σ.length
  sep : ∀ a ∈ as, a ≠ F.L ∧ F.h₀.get? a = none
  cr : ∀ (i : Nat) (a : Addr) (c : Cell), as[i]? = some a → σ[i]? = some c → CR G s.heap as a c
  gens : s.gens = F.gens
  os : s.os = F.os

section
variable {G : GX} {F : FX} {m : Str → Option Value} {as : List Addr} {σ : List Cell} {s : Shared}

theorem Inv.addr (I : Inv G F m as σ s) {i : Nat} {c : Cell} (h : σ[i]? = some c) : ∃ a, as[i]? = some a ∧ CR G s.heap as a c := by
  have hi := (List.getElem?_eq_some_iff.mp h).1
  rw [← I.len] at hi
  exact ⟨_, List.getElem?_eq_getElem hi, I.cr i _ c (List.getElem?_eq_getElem hi) h⟩
theorem Inv.live (I : Inv G F m as σ s) {a : Addr} (h : a ∈ as) : ∃ o, s.heap.get? a = some o := by
  obtain ⟨i, hi, rfl⟩ := List.getElem_of_mem h
  have hi' : i < σ.length := I.len ▸ hi
  exact (I.cr i _ _ (List.getElem?_eq_getElem hi) (List.getElem?_eq_getElem hi')).there
theorem Inv.low (I : Inv G F m as σ s) {a : Addr} (h : a ∈ as) : a < s.heap.objs.size := let ⟨_, e⟩ := I.live h; Heap.lt_size e

theorem Inv.ns (I : Inv G F m as σ s) : ∃ o es ep, s.heap.get? F.L = some o ∧ o.data = .dict es ep := let ⟨o, es, ep, a, b, _⟩ := I.fr.ns; ⟨o, es, ep, a, b⟩
theorem Inv.stay (I : Inv G F m as σ s) : Stp F.L s.heap as s.heap as := .refl I.ns

/-- nothing of the store is touched; things are only added -/
theorem Inv.grow (I : Inv G F m as σ s) {s' : Shared} {m' : Str → Option Value} (k : ∀ b o, s.heap.get? b = some o → b ≠ F.L → s'.heap.get? b = some o) (fr : Fr F.h₀ F.L s'.heap m') (hg : s'.gens = s.gens) (ho : s'.os = s.os) :
    Inv G F m' as σ s' ∧ Stp F.L s.heap as s'.heap as := by
  have st : Stp F.L s.heap as s'.heap as := ⟨fun b o e _ n => k b o e n, List.prefix_refl _, fun _ x y => absurd x y, I.ns⟩
  exact ⟨⟨fr, I.nd, I.len, I.sep, fun i a c h1 h2 => (I.cr i a c h1 h2).stp st fun o e => k a o e (I.sep a (List.mem_of_getElem? h1)).1, hg.trans I.gens, ho.trans I.os⟩, st⟩
/-- only ticks of the clock -/
theorem Inv.same (I : Inv G F m as σ s) {s' : Shared} (hh : s'.heap = s.heap) (hg : s'.gens = s.gens) (ho : s'.os = s.os) : Inv G F m as σ s' :=
  ⟨hh ▸ I.fr, I.nd, I.len, I.sep, fun i a c h1 h2 => hh ▸ I.cr i a c h1 h2, hg.trans I.gens, ho.trans I.os⟩
theorem Inv.toks (I : Inv G F m as σ s) (t : Nat) : Inv G F m as σ { s with toks := t } := I.same rfl rfl rfl
theorem Inv.push (I : Inv G F m as σ s) (o : Obj) (t : Nat) : Inv G F m as σ { s with heap := s.heap.push o, toks := t } ∧ Stp F.L s.heap as (s.heap.push o) as :=
  I.grow (s' := { s with heap := s.heap.push o, toks := t }) (fun _ _ e _ => Heap.get?_push_of_some _ e) (I.fr.push o) rfl rfl

/-- the whole ledger: for the kit's rules that speak of one -/
noncomputable def allNews (h₀ h : Heap) (L : Addr) : List (Addr × Obj) := (List.range h.objs.size).filterMap fun b => if b = L ∨ (h₀.get? b).isSome = true then none else (h.get? b).map fun o => (b, o)
theorem allNews_iff {h₀ h : Heap} {L : Addr} {p : Addr × Obj} : p ∈ allNews h₀ h L ↔ h.get? p.1 = some p.2 ∧ p.1 ≠ L ∧ h₀.get? p.1 = none := by
  obtain ⟨a, o⟩ := p
  unfold allNews
  rw [List.mem_filterMap]
  constructor
  · rintro ⟨b, _, e⟩
    by_cases q : b = L ∨ (h₀.get? b).isSome = true
    · rw [if_pos q] at e; cases e
    · rw [if_neg q] at e
      obtain ⟨o', ho, e'⟩ := Option.map_eq_some_iff.mp e
      cases e'
      refine ⟨ho, fun z => q (.inl z), ?_⟩
      cases z : h₀.get? a with
      | none => rfl
      | some _ => exact absurd (.inr (by rw [z]; rfl)) q
  · rintro ⟨h1, h2, h3⟩
    refine ⟨a, List.mem_range.mpr (Heap.lt_size h1), ?_⟩
    rw [if_neg (by rintro (q | q); exact h2 q; (rw [h3] at q; cases q)), h1]; rfl
theorem allNews_news {h₀ h : Heap} {L : Addr} : News h₀ L h (allNews h₀ h L) := fun _ hp => allNews_iff.mp hp
theorem Inv.after (I : Inv G F m as σ s) {s' : Shared} (fr : Fr F.h₀ F.L s'.heap m) (N : News F.h₀ F.L s'.heap (allNews F.h₀ s.heap F.L)) (hg : s'.gens = s.gens) (ho : s'.os = s.os) :
    Inv G F m as σ s' ∧ Stp F.L s.heap as s'.heap as := by
  refine I.grow (fun b o e n => ?_) fr hg ho
  cases q : F.h₀.get? b with
  | some o' =>
    have h1 := I.fr.keep b o' q
    have h2 := fr.keep b o' q
    rw [e] at h1; cases h1; exact h2
  | none => exact (N (b, o) (allNews_iff.mpr ⟨e, n, q⟩)).1

theorem Fr.sameBut {h₀ h h' : Heap} {L a : Addr} {m : Str → Option Value} (x : Fr h₀ L h m) (hs : Heap.SameBut a h h') (n : a ≠ L) (e : h₀.get? a = none) : Fr h₀ L h' m :=
  ⟨x.ns.sameBut hs (Ne.symm n), fun b o q => (hs.2 b fun z => by rw [z, e] at q; cases q).trans (x.keep b o q), x.above⟩

/-- one cell is written -/
theorem Inv.set (I : Inv G F m as σ s) {s' : Shared} {i : Nat} {a : Addr} {c : Cell} (ha : as[i]? = some a) (hk : ∀ b o, s.heap.get? b = some o → b ≠ a → b ≠ F.L → s'.heap.get? b = some o) (fr : Fr F.h₀ F.L s'.heap m)
    (hc : CR G s'.heap as a c) (hg : s'.gens = s.gens) (ho : s'.os = s.os) :
    Inv G F m as (σ.set i c) s' ∧ Stp F.L s.heap as s'.heap as := by
  have hm := List.mem_of_getElem? ha
  have st : Stp F.L s.heap as s'.heap as := ⟨fun b o e n nl => hk b o e (fun z => n (z ▸ hm)) nl, List.prefix_refl _, fun _ x y => absurd x y, I.ns⟩
  refine ⟨⟨fr, I.nd, by rw [List.length_set]; exact I.len, I.sep, fun j b d h1 h2 => ?_, hg.trans I.gens, ho.trans I.os⟩, st⟩
  by_cases q : i = j
  · subst q
    rw [ha] at h1; cases h1
    have : (σ.set i c)[i]? = some c := by rw [List.getElem?_set_self]; have := (List.getElem?_eq_some_iff.mp h2).1; rwa [List.length_set] at this
    rw [this] at h2; cases h2
    exact hc
  · rw [List.getElem?_set_ne q] at h2
    have hne : b ≠ a := fun z => by
      subst z
      obtain ⟨l1, e1⟩ := List.getElem?_eq_some_iff.mp ha
      obtain ⟨l2, e2⟩ := List.getElem?_eq_some_iff.mp h1
      exact q ((List.getElem_inj I.nd).mp (e1.trans e2.symm))
    exact (I.cr j b d h1 h2).stp st fun o e => hk b o e hne (I.sep b (List.mem_of_getElem? h1)).1
theorem Inv.setBut (I : Inv G F m as σ s) {s' : Shared} {i : Nat} {a : Addr} {c : Cell} (ha : as[i]? = some a) (hs : Heap.SameBut a s.heap s'.heap) (hc : CR G s'.heap as a c) (hg : s'.gens = s.gens) (ho : s'.os = s.os) :
    Inv G F m as (σ.set i c) s' ∧ Stp F.L s.heap as s'.heap as :=
  have hm := List.mem_of_getElem? ha
  I.set ha (fun b o e n _ => (hs.2 b n).trans e) (Fr.sameBut I.fr hs (I.sep a hm).1 (I.sep a hm).2) hc hg ho

/-- a new cell -/
theorem Inv.new (I : Inv G F m as σ s) {s' : Shared} {a : Addr} {c : Cell} (k : ∀ b o, s.heap.get? b = some o → b ≠ F.L → s'.heap.get? b = some o) (fr : Fr F.h₀ F.L s'.heap m) (fa : s.heap.get? a = none) (hl : F.L ≠ a)
    (hc : CR G s'.heap (as ++ [a]) a c) (hg : s'.gens = s.gens) (ho : s'.os = s.os) :
    Inv G F m (as ++ [a]) (σ ++ [c]) s' ∧ Stp F.L s.heap as s'.heap (as ++ [a]) := by
  have na : a ∉ as := fun q => by obtain ⟨o, e⟩ := I.live q; rw [fa] at e; cases e
  have st : Stp F.L s.heap as s'.heap (as ++ [a]) := ⟨fun b o e _ n => k b o e n, List.prefix_append _ _, fun b x y => by
    rcases List.mem_append.mp x with x | x
    · exact absurd x y
    · rw [List.mem_singleton.mp x]; exact fa, I.ns⟩
  refine ⟨⟨fr, ?_, by rw [List.length_append, List.length_append, I.len]; rfl, fun b x => ?_, fun j b d h1 h2 => ?_, hg.trans I.gens, ho.trans I.os⟩, st⟩
  · refine List.nodup_append.mpr ⟨I.nd, by simp, fun x hx y hy => ?_⟩
    rw [List.mem_singleton.mp hy]; rintro rfl; exact na hx
  · rcases List.mem_append.mp x with x | x
    · exact I.sep b x
    · rw [List.mem_singleton.mp x]
      refine ⟨Ne.symm hl, ?_⟩
      cases e : F.h₀.get? a with
      | none => rfl
      | some o => have := I.fr.keep a o e; rw [fa] at this; cases this
  · by_cases q : j < as.length
    · rw [List.getElem?_append_left q] at h1
      rw [List.getElem?_append_left (I.len ▸ q)] at h2
      exact (I.cr j b d h1 h2).stp st fun o e => k b o e (I.sep b (List.mem_of_getElem? h1)).1
    · have q' : as.length ≤ j := Nat.le_of_not_lt q
      rw [List.getElem?_append_right q'] at h1
      rw [List.getElem?_append_right (I.len ▸ q')] at h2
      have e1 : j - as.length = 0 := by
        have := (List.getElem?_eq_some_iff.mp h1).1
        simp at this; omega
      rw [e1] at h1
      rw [← I.len, e1] at h2
      simp at h1 h2
      subst h1 h2
      exact hc
end


noncomputable def NoE : Value → Shared → Prop := fun _ _ => False

/-- name x means v here: a name of the frame, a name of a comprehension, a captured name -/
inductive NameIs (L : Addr) (m : Str → Option Value) (env : Env) (h : Heap) (as : List Addr) (x : Str) (v : Value) : Prop
  | own : env.locals = L → env.kindOf x = some .local → m x = some v → NameIs L m env h as x v
  | comp (mc : Str → Option Value) : env.locals ≠ L → env.kindOf x = some .local → h.Ns env.locals mc → env.locals ∉ as → mc x = some v → NameIs L m env h as x v
  | cell (a : Addr) (o : Obj) : env.kindOf x = some .cell → env.cells.lookup x = some a → h.get? a = some o → o.data = .cell (some v) → a ∉ as → NameIs L m env h as x v
  | free (a : Addr) (o : Obj) : env.kindOf x = some .free → env.cells.lookup x = some a → h.get? a = some o → o.data = .cell (some v) → a ∉ as → NameIs L m env h as x v

theorem NameIs.stp {L : Addr} {m : Str → Option Value} {env : Env} {h h' : Heap} {as as' : List Addr} {x : Str} {v : Value} (st : Stp L h as h' as') : NameIs L m env h as x v → NameIs L m env h' as' x v
  | .own hl hk hm => .own hl hk hm
  | .comp mc hl hk ⟨o, es, ep, ho, r⟩ n hm => .comp mc hl hk ⟨o, es, ep, st.keep _ _ ho n hl, r⟩ (st.notMem ho n) hm
  | .cell a o hk hc ho hd n => .cell a o hk hc (st.keep _ _ ho n (st.off ho (by rw [hd]; intro _ _ q; cases q))) hd (st.notMem ho n)
  | .free a o hk hc ho hd n => .free a o hk hc (st.keep _ _ ho n (st.off ho (by rw [hd]; intro _ _ q; cases q))) hd (st.notMem ho n)

noncomputable abbrev PEnv := List (Str × PV)

structure ER (L : Addr) (m : Str → Option Value) (env : Env) (h : Heap) (as : List Addr) (ρ : PEnv) : Prop where
  kind : env.scope.kind = .function
  glob : env.globals = mainGlobals
  bins : env.builtins = builtinsNs
  names : ∀ x pv, ρ.lookup x = some pv → ∃ v, NameIs L m env h as x v ∧ VR h as pv v
theorem ER.stp {L : Addr} {m : Str → Option Value} {env : Env} {h h' : Heap} {as as' : List Addr} {ρ : PEnv} (R : ER L m env h as ρ) (st : Stp L h as h' as') : ER L m env h' as' ρ :=
  ⟨R.kind, R.glob, R.bins, fun x pv e => let ⟨v, a, b⟩ := R.names x pv e; ⟨v, a.stp st, b.stp st⟩⟩

noncomputable def PE (G : GX) (F : FX) (m : Str → Option Value) (as : List Addr) (h : Heap) (Q : PV → List Cell → Prop) (v : Value) (s' : Shared) : Prop :=
  ∃ pv σ' as', Inv G F m as' σ' s' ∧ Stp F.L h as s'.heap as' ∧ VR s'.heap as' pv v ∧ Q pv σ'
noncomputable def PL (G : GX) (F : FX) (m : Str → Option Value) (as : List Addr) (h : Heap) (Q : List PV → List Cell → Prop) (vs : List Value) (s' : Shared) : Prop :=
  ∃ pvs σ' as', Inv G F m as' σ' s' ∧ Stp F.L h as s'.heap as' ∧ VRs s'.heap as' pvs vs ∧ Q pvs σ'
noncomputable def PB (G : GX) (F : FX) (m : Str → Option Value) (as : List Addr) (h : Heap) (Q : Bool → List Cell → Prop) (b : Bool) (s' : Shared) : Prop :=
  ∃ σ' as', Inv G F m as' σ' s' ∧ Stp F.L h as s'.heap as' ∧ Q b σ'
noncomputable def PU (G : GX) (F : FX) (m : Str → Option Value) (as : List Addr) (h : Heap) (Q : List Cell → Prop) (_ : Unit) (s' : Shared) : Prop :=
  ∃ σ' as', Inv G F m as' σ' s' ∧ Stp F.L h as s'.heap as' ∧ Q σ'
theorem PE.trans {G F m as as' h h'} {Q : PV → List Cell → Prop} {v s'} (x : PE G F m as' h' Q v s') (st : Stp F.L h as h' as') : PE G F m as h Q v s' :=
  let ⟨pv, σ', as'', I, S, V, q⟩ := x; ⟨pv, σ', as'', I, st.trans S, V, q⟩
theorem PL.trans {G F m as as' h h'} {Q : List PV → List Cell → Prop} {v s'} (x : PL G F m as' h' Q v s') (st : Stp F.L h as h' as') : PL G F m as h Q v s' :=
  let ⟨pv, σ', as'', I, S, V, q⟩ := x; ⟨pv, σ', as'', I, st.trans S, V, q⟩
theorem PB.trans {G F m as as' h h'} {Q : Bool → List Cell → Prop} {v s'} (x : PB G F m as' h' Q v s') (st : Stp F.L h as h' as') : PB G F m as h Q v s' :=
  let ⟨σ', as'', I, S, q⟩ := x; ⟨σ', as'', I, st.trans S, q⟩
theorem PU.trans {G F m as as' h h'} {Q : List Cell → Prop} {v s'} (x : PU G F m as' h' Q v s') (st : Stp F.L h as h' as') : PU G F m as h Q v s' :=
  let ⟨σ', as'', I, S, q⟩ := x; ⟨σ', as'', I, st.trans S, q⟩

/-- an expression, from a store and names -/
noncomputable def WPE (G : GX) (F : FX) (env : Env) (ρ : PEnv) (σ : List Cell) (e : Expr) (Q : PV → List Cell → Prop) : Prop :=
  ∀ m as s, Inv G F m as σ s → ER F.L m env s.heap as ρ → wpAny (model G.prog G.w) F.A (eval e env) (PE G F m as s.heap Q) NoE s
noncomputable def WPL (G : GX) (F : FX) (env : Env) (ρ : PEnv) (σ : List Cell) (pos : Pos) (es : List Expr) (Q : List PV → List Cell → Prop) : Prop :=
  ∀ m as s, Inv G F m as σ s → ER F.L m env s.heap as ρ → wpAny (model G.prog G.w) F.A (spliced (backTo pos (starEach es env))) (PL G F m as s.heap Q) NoE s
noncomputable def WPB (G : GX) (F : FX) (env : Env) (ρ : PEnv) (σ : List Cell) (e : Expr) (Q : Bool → List Cell → Prop) : Prop :=
  ∀ m as s, Inv G F m as σ s → ER F.L m env s.heap as ρ → wpAny (model G.prog G.w) F.A (isTrue e env (eval e env)) (PB G F m as s.heap Q) NoE s
/-- an operation on values -/
noncomputable def Op1 (G : GX) (F : FX) (σ : List Cell) (p : PV) (t : Value → Sem Value) (Q : PV → List Cell → Prop) : Prop :=
  ∀ m as s v, Inv G F m as σ s → VR s.heap as p v → wpAny (model G.prog G.w) F.A (t v) (PE G F m as s.heap Q) NoE s
noncomputable def Op2 (G : GX) (F : FX) (σ : List Cell) (p q : PV) (t : Value → Value → Sem Value) (Q : PV → List Cell → Prop) : Prop :=
  ∀ m as s v u, Inv G F m as σ s → VR s.heap as p v → VR s.heap as q u → wpAny (model G.prog G.w) F.A (t v u) (PE G F m as s.heap Q) NoE s
noncomputable def OpN (G : GX) (F : FX) (σ : List Cell) (ps : List PV) (t : List Value → Sem Value) (Q : PV → List Cell → Prop) : Prop :=
  ∀ m as s vs, Inv G F m as σ s → VRs s.heap as ps vs → wpAny (model G.prog G.w) F.A (t vs) (PE G F m as s.heap Q) NoE s
noncomputable def OpB (G : GX) (F : FX) (σ : List Cell) (p : PV) (t : Value → Sem Bool) (Q : Bool → List Cell → Prop) : Prop :=
  ∀ m as s v, Inv G F m as σ s → VR s.heap as p v → wpAny (model G.prog G.w) F.A (t v) (PB G F m as s.heap Q) NoE s
noncomputable def OpU (G : GX) (F : FX) (σ : List Cell) (ps : List PV) (t : List Value → Sem Unit) (Q : List Cell → Prop) : Prop :=
  ∀ m as s vs, Inv G F m as σ s → VRs s.heap as ps vs → wpAny (model G.prog G.w) F.A (t vs) (PU G F m as s.heap Q) NoE s

section
variable {G : GX} {F : FX} {env : Env} {ρ : PEnv} {σ : List Cell}

theorem PE.ret {m as s s'} {Q : PV → List Cell → Prop} {p : PV} {σ' : List Cell} {v : Value} (I : Inv G F m as σ' s') (h : s'.heap = s.heap) (V : VR s.heap as p v) (q : Q p σ') : PE G F m as (Shared.heap s) Q v s' :=
  ⟨p, σ', as, I, h ▸ I.stay, h ▸ V, q⟩

theorem wpm {α : Type} {M : Model} {A : Around} {t : Sem α} {Q Q' : α → Shared → Prop} {E : Value → Shared → Prop} {s : Shared} (h : wpAny M A t Q NoE s) (hQ : ∀ a s, Q a s → Q' a s) : wpAny M A t Q' E s :=
  wpAny_mono h hQ fun _ _ x => x.elim

theorem WPE.mono {e : Expr} {Q Q' : PV → List Cell → Prop} (h : WPE G F env ρ σ e Q) (k : ∀ p σ', Q p σ' → Q' p σ') : WPE G F env ρ σ e Q' :=
  fun m as s I R => wpm (h m as s I R) fun _ _ ⟨p, σ', as', I', S, V, q⟩ => ⟨p, σ', as', I', S, V, k _ _ q⟩

-- constants
theorem WPE.cint {i : Int} {k : Nat} {pos : Pos} {Q : PV → List Cell → Prop} (h : Q (.int i) σ) : WPE G F env ρ σ (.Constant (.int i) k pos) Q :=
  fun _ _ _ I _ => wpAny_Constant_int (PE.ret (I.toks _) rfl (by rw [VR]; exact ⟨_, rfl⟩) h)
theorem WPE.cstr {x : Str} {k : Nat} {pos : Pos} {Q : PV → List Cell → Prop} (h : Q (.str x) σ) : WPE G F env ρ σ (.Constant (.str x) k pos) Q :=
  fun _ _ _ I _ => PySem.Calls.Constant_str (PE.ret (I.toks _) rfl (by rw [VR]; exact ⟨_, rfl⟩) h)
theorem WPE.cbool {b : Bool} {k : Nat} {pos : Pos} {Q : PV → List Cell → Prop} (h : Q (.bool b) σ) : WPE G F env ρ σ (.Constant (.bool b) k pos) Q :=
  fun _ _ _ I _ => wpAny_Constant_bool (PE.ret I rfl (by rw [VR]) h)
theorem WPE.cnone {k : Nat} {pos : Pos} {Q : PV → List Cell → Prop} (h : Q .none σ) : WPE G F env ρ σ (.Constant .none k pos) Q :=
  fun _ _ _ I _ => PySem.wpAny_Constant_none (PE.ret I rfl (by rw [VR]) h)

-- names
theorem WPE.name {x : Str} {pos : Pos} {p : PV} {Q : PV → List Cell → Prop} (e : ρ.lookup x = some p) (h : Q p σ) (hd : (x == ("__debug__" : Str)) = false := by decide) (hn : (x == ("__classdict__" : Str)) = false := by decide) :
    WPE G F env ρ σ (.Name x pos) Q := fun m as s I R => by
  obtain ⟨v, N, V⟩ := R.names x p e
  cases N with
  | own hl hk hv => exact wpAny_Name (wpAny_loadName_local R.kind hk (by rw [hl]; exact I.fr.ns) hv (PE.ret I rfl V h)) hd
  | comp mc hl hk hm n hv => exact wpAny_Name (wpAny_loadName_local R.kind hk hm hv (PE.ret I rfl V h)) hd
  | cell a o hk hc ho hcd n => exact wpAny_Name (wpAny_loadName_cell R.kind hk hc ⟨o, ho, hcd⟩ (PE.ret I rfl V h)) hd
  | free a o hk hc ho hcd n => exact wpAny_Name (wpAny_loadName_free R.kind hk hc ⟨o, ho, hcd⟩ (PE.ret I rfl V h) hn) hd

/-- a name of the top: the value itself -/
theorem name_top {n : Nat} (O : F.Ok G n) {m as s} {x : Str} {pos : Pos} {v : Value} {Q : Value → Shared → Prop} {E : Value → Shared → Prop} (I : Inv G F m as σ s) (R : ER F.L m env s.heap as ρ) (hx : env.kindOf x = some .globalImplicit)
    (e : nsIn G.K mainGlobals x = some (some v)) (h : Q v s) (hd : (x == ("__debug__" : Str)) = false := by decide) : wpAny (model G.prog G.w) F.A (eval (.Name x pos) env) Q E s :=
  Name_function_global R.kind hx (loadGlobal_global (env := env) (by rw [R.glob]; exact O.T.g.keeps I.fr.keep) (mg_of O.X O.T.g e) h) hd
theorem name_bin {n : Nat} (O : F.Ok G n) {m as s} {x : Str} {pos : Pos} {v : Value} {Q : Value → Shared → Prop} {E : Value → Shared → Prop} (I : Inv G F m as σ s) (R : ER F.L m env s.heap as ρ) (hx : env.kindOf x = some .globalImplicit)
    (e : nsIn G.K mainGlobals x = some none) (hv : bootBuiltins x = some v) (hn : x ≠ "__name__") (h : Q v s) (hd : (x == ("__debug__" : Str)) = false := by decide) : wpAny (model G.prog G.w) F.A (eval (.Name x pos) env) Q E s :=
  Name_function_global R.kind hx (loadGlobal_builtin (env := env) (by rw [R.glob]; exact O.T.g.keeps I.fr.keep) (mg_none_of O.X O.T.g e) (by rw [R.bins]; exact O.T.b.keeps I.fr.keep) ((O.T.builtins x hn).trans hv) h) hd

noncomputable def isStar : Expr → Bool
  | .Starred _ _ => true
  | _ => false
theorem star_cons {e : Expr} {es : List Expr} {env : Env} (h : isStar e = false) : starEach (e :: es) env = (false, eval e env) :: starEach es env := by
  cases e <;> first | rfl | cases h
theorem star_any {env : Env} {pos : Pos} : ∀ {es : List Expr}, es.any isStar = false → (backTo pos (starEach es env)).any (·.1) = false
  | [], _ => rfl
  | e :: es, h => by
    simp only [List.any_cons, Bool.or_eq_false_iff] at h
    rw [star_cons h.1]
    show (false || (backTo pos (starEach es env)).any (·.1)) = false
    rw [star_any h.2]; rfl
theorem call_eq {fn : Str} {fp pos : Pos} {es : List Expr} {env : Env} : eval (Expr.Call (.Name fn fp) es [] pos) env = (do let f ← eval (.Name fn fp) env; callWith pos f [] (backTo pos (starEach es env)) (backToKw pos (keywordEach [] env))) := by rfl
-- lists of expressions
theorem WPL.nil {pos : Pos} {Q : List PV → List Cell → Prop} (h : Q [] σ) : WPL G F env ρ σ pos [] Q :=
  fun _ as _ I _ => spliced_none ⟨[], σ, as, I, I.stay, VRs.nil, h⟩
theorem WPL.cons {pos : Pos} {e : Expr} {es : List Expr} {Q : List PV → List Cell → Prop} (h : WPE G F env ρ σ e fun p σ₁ => WPL G F env ρ σ₁ pos es fun ps σ₂ => Q (p :: ps) σ₂)
    (he : isStar e = false := by rfl) : WPL G F env ρ σ pos (e :: es) Q := fun m as s I R =>
  spliced_more (wpm (h m as s I R) fun v s₁ ⟨p, σ₁, as₁, I₁, S₁, V₁, q₁⟩ => wpm (q₁ m as₁ s₁ I₁ (R.stp S₁)) fun vs s₂ ⟨ps, σ₂, as₂, I₂, S₂, V₂, q₂⟩ =>
    ⟨p :: ps, σ₂, as₂, I₂, S₁.trans S₂, .cons (V₁.stp S₂) V₂, q₂⟩) (star_cons he)

theorem newTuple_ {m as s} {ps : List PV} {vs : List Value} {Q : PV → List Cell → Prop} (I : Inv G F m as σ s) (V : VRs s.heap as ps vs) (hl : ps.length ≤ 1000) (h : Q (.tup ps) σ) :
    wpAny (model G.prog G.w) F.A (newTuple vs) (PE G F m as s.heap Q) NoE s := by
  have hsz : vs.length ≤ sizeLine := by rw [V.length, sizeLine_eq]; omega
  refine wpAny_newObj_type ?_ (by show (List.toArray vs).size ≤ sizeLine; rw [List.size_toArray]; exact hsz)
  obtain ⟨I', S'⟩ := I.push { cls := .type "tuple", data := .seq vs.toArray } s.toks
  refine ⟨.tup ps, σ, as, I', S', ?_, h⟩
  rw [VR]
  exact ⟨_, vs, rfl, fun q => Nat.lt_irrefl _ (I.low q), ⟨_, Heap.get?_push_size _ rfl, rfl, _, rfl⟩, V.stp S'⟩
theorem WPE.tuple {es : List Expr} {k : Nat} {pos : Pos} {Q : PV → List Cell → Prop} (h : WPL G F env ρ σ pos es fun ps σ₁ => ps.length ≤ 1000 ∧ Q (.tup ps) σ₁) : WPE G F env ρ σ (.Tuple es k pos) Q := fun m as s I R =>
  Tuple_ (wpm (h m as s I R) fun vs s₁ ⟨ps, σ₁, as₁, I₁, S₁, V₁, q₁⟩ => wpm (newTuple_ I₁ V₁ q₁.1 q₁.2) fun _ _ x => x.trans S₁)

theorem newList_ {m as s} {ps : List PV} {vs : List Value} {Q : PV → List Cell → Prop} (I : Inv G F m as σ s) (V : VRs s.heap as ps vs) (hl : ps.length ≤ 1000) (h : Q (.ref σ.length) (σ ++ [.list ps])) :
    wpAny (model G.prog G.w) F.A (newList vs) (PE G F m as s.heap Q) NoE s := by
  have hsz : vs.length ≤ sizeLine := by rw [V.length, sizeLine_eq]; omega
  refine wpAny_newObj_type ?_ (by show (List.toArray vs).size ≤ sizeLine; rw [List.size_toArray]; exact hsz)
  obtain ⟨I', S'⟩ := I.push { cls := .type "list", data := .seq vs.toArray } s.toks
  have fa : s.heap.get? s.heap.objs.size = none := by
    cases e : s.heap.get? s.heap.objs.size with
    | none => rfl
    | some o => exact absurd (Heap.lt_size e) (Nat.lt_irrefl _)
  have hL : F.L ≠ s.heap.objs.size := fun q => by
    obtain ⟨o, _, _, hL, _⟩ := I.fr.ns
    exact absurd (Heap.lt_size hL) (q ▸ Nat.lt_irrefl _)
  have Sx : Stp F.L s.heap as (s.heap.push { cls := .type "list", data := .seq vs.toArray }) (as ++ [s.heap.objs.size]) := ⟨S'.keep, List.prefix_append _ _, fun a ha n => by
    rcases List.mem_append.mp ha with q | q
    · exact absurd q n
    · rw [List.mem_singleton.mp q]; exact fa, I.ns⟩
  obtain ⟨I2, S2⟩ := I.new (s' := { s with heap := s.heap.push { cls := .type "list", data := .seq vs.toArray } }) (c := .list ps) (fun _ _ e _ => Heap.get?_push_of_some _ e) (I.fr.push _) fa hL
    ⟨vs, _, Heap.get?_push_size _ rfl, V.stp Sx⟩ rfl rfl
  refine ⟨.ref σ.length, _, _, I2, S2, ?_, h⟩
  rw [VR]
  exact ⟨_, by rw [← I.len, List.getElem?_append_right (Nat.le_refl _)]; simp, rfl⟩
theorem WPE.list {es : List Expr} {pos : Pos} {Q : PV → List Cell → Prop} (h : WPL G F env ρ σ pos es fun ps σ₁ => ps.length ≤ 1000 ∧ Q (.ref σ₁.length) (σ₁ ++ [.list ps])) : WPE G F env ρ σ (.List es pos) Q := fun m as s I R =>
  List_ (wpm (h m as s I R) fun vs s₁ ⟨ps, σ₁, as₁, I₁, S₁, V₁, q₁⟩ => wpm (newList_ I₁ V₁ q₁.1 q₁.2) fun _ _ x => x.trans S₁)

-- operators
theorem WPE.bin {l r : Expr} {op : Operator} {pos : Pos} {Q : PV → List Cell → Prop} (h : WPE G F env ρ σ l fun a σ₁ => WPE G F env ρ σ₁ r fun b σ₂ => Op2 G F σ₂ a b (binaryOp op) Q) : WPE G F env ρ σ (.BinOp l op r pos) Q := fun m as s I R =>
  wpAny_BinOp (wpm (h m as s I R) fun v s₁ ⟨p, σ₁, as₁, I₁, S₁, V₁, q₁⟩ => wpm (q₁ m as₁ s₁ I₁ (R.stp S₁)) fun u s₂ ⟨p₂, σ₂, as₂, I₂, S₂, V₂, q₂⟩ => wpm (q₂ m as₂ s₂ v u I₂ (V₁.stp S₂) V₂) fun _ _ x => x.trans (S₁.trans S₂))
theorem WPE.cmp {l r : Expr} {op : CmpOp} {pos : Pos} {Q : PV → List Cell → Prop} (h : WPE G F env ρ σ l fun a σ₁ => WPE G F env ρ σ₁ r fun b σ₂ => Op2 G F σ₂ a b (compareOp op) Q)
    (hm : behindInMarks op r = false := by rfl) : WPE G F env ρ σ (.Compare l [op] [r] pos) Q := fun m as s I R =>
  wpAny_Compare1 (wpm (h m as s I R) fun v s₁ ⟨p, σ₁, as₁, I₁, S₁, V₁, q₁⟩ => wpm (q₁ m as₁ s₁ I₁ (R.stp S₁)) fun u s₂ ⟨p₂, σ₂, as₂, I₂, S₂, V₂, q₂⟩ => wpm (q₂ m as₂ s₂ v u I₂ (V₁.stp S₂) V₂) fun _ _ x => x.trans (S₁.trans S₂)) hm
theorem WPE.unary {x : Expr} {op : UnaryOp} {pos : Pos} {Q : PV → List Cell → Prop} (h : WPE G F env ρ σ x fun a σ₁ => Op1 G F σ₁ a (unaryOp op) Q) : WPE G F env ρ σ (.UnaryOp op x pos) Q := fun m as s I R =>
  UnaryOp_ (wpm (h m as s I R) fun v s₁ ⟨p, σ₁, as₁, I₁, S₁, V₁, q₁⟩ => wpm (q₁ m as₁ s₁ v I₁ V₁) fun _ _ x => x.trans S₁)
theorem WPE.ifexp {t b o : Expr} {pos : Pos} {Q : PV → List Cell → Prop} (h : WPB G F env ρ σ t fun c σ₁ => (c = true → WPE G F env ρ σ₁ b Q) ∧ (c = false → WPE G F env ρ σ₁ o Q)) : WPE G F env ρ σ (.IfExp t b o pos) Q := fun m as s I R =>
  IfExp_ (wpm (h m as s I R) fun c s₁ ⟨σ₁, as₁, I₁, S₁, q₁⟩ => by
    cases c with
    | true => exact wpm (q₁.1 rfl m as₁ s₁ I₁ (R.stp S₁)) fun _ _ x => x.trans S₁
    | false => exact wpm (q₁.2 rfl m as₁ s₁ I₁ (R.stp S₁)) fun _ _ x => x.trans S₁)
theorem WPE.band {a b : Expr} {rest : List Expr} {pos : Pos} {Q : PV → List Cell → Prop}
    (h : WPE G F env ρ σ a fun p σ₁ => OpB G F σ₁ p truthy fun c σ₂ => (c = true → WPE G F env ρ σ₂ (.BoolOp .And (b :: rest) pos) Q) ∧ (c = false → σ₂ = σ₁ ∧ Q p σ₁)) : WPE G F env ρ σ (.BoolOp .And (a :: b :: rest) pos) Q := fun m as s I R =>
  BoolOp_and (wpm (h m as s I R) fun v s₁ ⟨p, σ₁, as₁, I₁, S₁, V₁, q₁⟩ => wpm (q₁ m as₁ s₁ v I₁ V₁) fun c s₂ ⟨σ₂, as₂, I₂, S₂, q₂⟩ => by
    cases c with
    | true => exact wpm (q₂.1 rfl m as₂ s₂ I₂ (R.stp (S₁.trans S₂))) fun _ _ x => x.trans (S₁.trans S₂)
    | false =>
      obtain ⟨e, q⟩ := q₂.2 rfl
      subst e
      exact ⟨p, σ₂, as₂, I₂, S₁.trans S₂, V₁.stp S₂, q⟩)

-- truth
theorem WPB.plain {e : Expr} {Q : Bool → List Cell → Prop} (h : WPE G F env ρ σ e fun p σ₁ => OpB G F σ₁ p truthy Q)
    (he : ∀ whole, isTrue e env whole = (do let v ← whole; standAt (Expr.pos e); holding [v] (truthy v)) := by intro _; rfl) : WPB G F env ρ σ e Q := fun m as s I R =>
  isTrue_plain (wpm (h m as s I R) fun v s₁ ⟨p, σ₁, as₁, I₁, S₁, V₁, q₁⟩ => wpm (q₁ m as₁ s₁ v I₁ V₁) fun _ _ x => x.trans S₁) (he _)
theorem WPB.cmp {l r : Expr} {op : CmpOp} {pos : Pos} {Q : Bool → List Cell → Prop} (h : WPE G F env ρ σ l fun a σ₁ => WPE G F env ρ σ₁ r fun b σ₂ => Op2 G F σ₂ a b (compareOp op) fun c σ₃ => ∃ t, c = .bool t ∧ Q t σ₃)
    (hm : behindInMarks op r = false := by rfl) : WPB G F env ρ σ (.Compare l [op] [r] pos) Q := fun m as s I R =>
  wpAny_isTrue_Compare1 (wpm (h m as s I R) fun v s₁ ⟨p, σ₁, as₁, I₁, S₁, V₁, q₁⟩ => wpm (q₁ m as₁ s₁ I₁ (R.stp S₁)) fun u s₂ ⟨p₂, σ₂, as₂, I₂, S₂, V₂, q₂⟩ => wpm (q₂ m as₂ s₂ v u I₂ (V₁.stp S₂) V₂)
    fun w s₃ ⟨p₃, σ₃, as₃, I₃, S₃, V₃, t, e, q⟩ => by
      subst e
      rw [VR] at V₃; subst V₃
      exact wpAny_truthy_bool ⟨σ₃, as₃, I₃, S₁.trans (S₂.trans S₃), q⟩) hm
theorem WPB.not {x : Expr} {pos : Pos} {Q : Bool → List Cell → Prop} (h : WPB G F env ρ σ x fun c σ₁ => Q (!c) σ₁) : WPB G F env ρ σ (.UnaryOp .Not x pos) Q := fun m as s I R =>
  isTrue_not (wpm (h m as s I R) fun _ _ ⟨σ₁, as₁, I₁, S₁, q₁⟩ => ⟨σ₁, as₁, I₁, S₁, q₁⟩)
end


noncomputable def PF (G : GX) (F : FX) (as : List Addr) (h : Heap) (N : PEnv → List Cell → Prop) (Rt : PV → List Cell → Prop) (fl : Flow) (s' : Shared) : Prop :=
  ∃ m' σ' as', Inv G F m' as' σ' s' ∧ Stp F.L h as s'.heap as' ∧ match fl with
    | .next => ∃ ρ', ER F.L m' F.env s'.heap as' ρ' ∧ N ρ' σ'
    | .ret v => ∃ pv, VR s'.heap as' pv v ∧ Rt pv σ'
    | _ => False
theorem PF.trans {G F as as' h h'} {N : PEnv → List Cell → Prop} {Rt : PV → List Cell → Prop} {v s'} (x : PF G F as' h' N Rt v s') (st : Stp F.L h as h' as') : PF G F as h N Rt v s' :=
  let ⟨m', σ', as'', I, S, q⟩ := x; ⟨m', σ', as'', I, st.trans S, q⟩

noncomputable def WPX (G : GX) (F : FX) (ρ : PEnv) (σ : List Cell) (st : Stmt) (N : PEnv → List Cell → Prop) (Rt : PV → List Cell → Prop) : Prop :=
  ∀ m as s, Inv G F m as σ s → ER F.L m F.env s.heap as ρ → wpAny (model G.prog G.w) F.A (exec st F.env) (PF G F as s.heap N Rt) NoE s
noncomputable def WPS (G : GX) (F : FX) (ρ : PEnv) (σ : List Cell) (sts : List Stmt) (N : PEnv → List Cell → Prop) (Rt : PV → List Cell → Prop) : Prop :=
  ∀ m as s, Inv G F m as σ s → ER F.L m F.env s.heap as ρ → wpAny (model G.prog G.w) F.A (execs sts F.env) (PF G F as s.heap N Rt) NoE s

section
variable {G : GX} {F : FX} {ρ : PEnv} {σ : List Cell} {N : PEnv → List Cell → Prop} {Rt : PV → List Cell → Prop}

theorem WPS.nil (h : N ρ σ) : WPS G F ρ σ [] N Rt := fun m as s I R => wpAny_execs_nil ⟨m, σ, as, I, I.stay, ρ, R, h⟩
theorem WPS.cons {st : Stmt} {rest : List Stmt} (h : WPX G F ρ σ st (fun ρ' σ' => WPS G F ρ' σ' rest N Rt) Rt) : WPS G F ρ σ (st :: rest) N Rt := fun m as s I R =>
  wpAny_execs_cons (wpm (h m as s I R) fun fl s₁ H => by
    obtain ⟨m', σ', as', I', S, q⟩ := H
    cases fl with
    | next =>
      obtain ⟨ρ', R', q⟩ := q
      exact wpm (q m' as' s₁ I' R') fun _ _ x => x.trans S
    | ret v => exact ⟨m', σ', as', I', S, q⟩
    | brk => exact q.elim
    | cont => exact q.elim)
theorem WPS.mono {sts : List Stmt} {N' : PEnv → List Cell → Prop} {Rt' : PV → List Cell → Prop} (h : WPS G F ρ σ sts N Rt) (k : ∀ ρ' σ', N ρ' σ' → N' ρ' σ') (k' : ∀ p σ', Rt p σ' → Rt' p σ') : WPS G F ρ σ sts N' Rt' := fun m as s I R =>
  wpm (h m as s I R) fun fl s₁ H => by
    obtain ⟨m', σ', as', I', S, q⟩ := H
    refine ⟨m', σ', as', I', S, ?_⟩
    cases fl with
    | next => obtain ⟨ρ', R', q⟩ := q; exact ⟨ρ', R', k _ _ q⟩
    | ret v => obtain ⟨p, V, q⟩ := q; exact ⟨p, V, k' _ _ q⟩
    | brk => exact q
    | cont => exact q

theorem WPX.ret {e : Expr} {pos : Pos} (h : WPE G F F.env ρ σ e Rt) : WPX G F ρ σ (.Return (some e) pos) N Rt := fun m as s I R =>
  wpAny_Return_some (wpm (h m as s I R) fun v s₁ ⟨p, σ₁, as₁, I₁, S₁, V₁, q₁⟩ => ⟨m, σ₁, as₁, I₁, S₁, p, V₁, q₁⟩)
theorem WPX.ret0 {pos : Pos} (h : Rt .none σ) : WPX G F ρ σ (.Return none pos) N Rt := fun m as s I R =>
  PySem.wpAny_Return_none ⟨m, σ, as, I, I.stay, .none, by rw [VR], h⟩
theorem WPX.expr {e : Expr} {pos : Pos} (h : WPE G F F.env ρ σ e fun _ σ' => N ρ σ') (hi : interactive F.env = false) (hs : swapsWith e none (Pos.line pos) F.env = pure false := by rfl) : WPX G F ρ σ (.Expr e pos) N Rt := fun m as s I R =>
  wpAny_Expr_any (wpm (h m as s I R) fun v s₁ ⟨p, σ₁, as₁, I₁, S₁, V₁, q₁⟩ => ⟨m, σ₁, as₁, I₁, S₁, ρ, R.stp S₁, q₁⟩) hi hs
theorem WPX.ite {t : Expr} {b o : List Stmt} {pos : Pos} (h : WPB G F F.env ρ σ t fun c σ₁ => (c = true → WPS G F ρ σ₁ b N Rt) ∧ (c = false → WPS G F ρ σ₁ o N Rt)) : WPX G F ρ σ (.If t b o pos) N Rt := fun m as s I R =>
  wpAny_If (wpm (h m as s I R) fun c s₁ ⟨σ₁, as₁, I₁, S₁, q₁⟩ => by
    cases c with
    | true => exact wpm (q₁.1 rfl m as₁ s₁ I₁ (R.stp S₁)) fun _ _ x => x.trans S₁
    | false => exact wpm (q₁.2 rfl m as₁ s₁ I₁ (R.stp S₁)) fun _ _ x => x.trans S₁)

theorem notClass {n : Nat} (O : F.Ok G n) : (F.env.scope.kind == .class || (F.env.scope.kind == .module && F.env.locals != F.env.globals)) = false := by rw [O.ek]; rfl
/-- a name of the frame is given a value -/
theorem store_ {n : Nat} (O : F.Ok G n) {m as s} {x : Str} {p : PV} {v : Value} {Q : Unit → Shared → Prop} {E : Value → Shared → Prop} (I : Inv G F m as σ s) (R : ER F.L m F.env s.heap as ρ) (V : VR s.heap as p v) (hx : F.env.kindOf x = some .local)
    (h : ∀ m' s', Inv G F m' as σ s' → Stp F.L s.heap as s'.heap as → ER F.L m' F.env s'.heap as ((x, p) :: ρ) → Q () s') : wpAny (model G.prog G.w) F.A (storeName F.env x v) Q E s := by
  refine wpAny_storeName_local hx (by rw [O.el]; exact I.fr.ns) (fun h' hn hs => ?_) (notClass O)
  rw [O.el] at hn hs
  obtain ⟨I', S'⟩ := I.grow (s' := { s with heap := h', toks := s.toks + 1 }) (m' := fun y => if y = x then some v else m y) (fun b o e nl => (hs.2 b nl).trans e) (I.fr.set hn hs) rfl rfl
  refine h _ _ I' S' ⟨R.kind, R.glob, R.bins, fun y pv e => ?_⟩
  rw [List.lookup_cons] at e
  by_cases q : y = x
  · subst q
    simp at e
    subst e
    exact ⟨v, .own O.el hx (by simp), V.stp S'⟩
  · rw [show (y == x) = false from by simpa using q] at e
    obtain ⟨u, Nu, Vu⟩ := R.names y pv e
    refine ⟨u, ?_, Vu.stp S'⟩
    cases Nu with
    | own hl hk hm => exact .own hl hk (by rw [if_neg q]; exact hm)
    | comp mc hl => exact absurd O.el hl
    | cell a o hk hc ho hd na => exact (NameIs.cell (m := fun y => if y = x then some v else m y) a o hk hc ho hd na).stp S'
    | free a o hk hc ho hd na => exact (NameIs.free (m := fun y => if y = x then some v else m y) a o hk hc ho hd na).stp S'

theorem WPX.assign {n : Nat} (O : F.Ok G n) {x : Str} {px pos : Pos} {e : Expr} (hx : F.env.kindOf x = some .local) (h : WPE G F F.env ρ σ e fun p σ' => N ((x, p) :: ρ) σ')
    (hs : swapsWith e (some (.Name x px)) (Pos.line pos) F.env = pure false := by rfl) : WPX G F ρ σ (.Assign [.Name x px] e pos) N Rt := fun m as s I R =>
  wpAny_Assign_Name (wpm (h m as s I R) fun v s₁ ⟨p, σ₁, as₁, I₁, S₁, V₁, q₁⟩ => store_ O I₁ (R.stp S₁) V₁ hx fun m' s' I' S' R' => ⟨m', σ₁, as₁, I', S₁.trans S', _, R', q₁⟩) hs

/-- stores of several names, one behind the other -/
theorem stores_ {n : Nat} (O : F.Ok G n) (xs : List Str) : ∀ (ps : List PV) (ρ : PEnv) {m as s} {vs : List Value} {Q : Unit → Shared → Prop} {E : Value → Shared → Prop}, xs.length = ps.length → Inv G F m as σ s → ER F.L m F.env s.heap as ρ → VRs s.heap as ps vs →
    (∀ x ∈ xs, F.env.kindOf x = some .local) → (∀ m' s', Inv G F m' as σ s' → Stp F.L s.heap as s'.heap as → ER F.L m' F.env s'.heap as ((xs.zip ps).reverse ++ ρ) → Q () s') →
    wpAny (model G.prog G.w) F.A (assignInOrder (xs.map fun x => bindName F.env x) vs) Q E s := by
  induction xs with
  | nil =>
    intro ps ρ m as s vs Q E hl I R V _ h
    have e := List.length_eq_zero_iff.mp hl.symm
    subst e
    rw [VRs] at V; subst V
    exact assignInOrder_nil (h m s I I.stay R)
  | cons x xs ih =>
    intro ps ρ m as s vs Q E hl I R V hx h
    obtain ⟨p, ps', e⟩ := List.exists_cons_of_length_eq_add_one (show ps.length = xs.length + 1 from hl.symm)
    subst e
    rw [VRs] at V; obtain ⟨v, r, rfl, hv, hr⟩ := V
    refine assignInOrder_cons (bindName_ (store_ O I R hv (hx x (.head _)) fun m' s' I' S' R' => ?_))
    refine ih ps' ((x, p) :: ρ) (by simpa using hl) I' R' (hr.stp S') (fun y hy => hx y (.tail _ hy)) fun m'' s'' I'' S'' R'' => h m'' s'' I'' (S'.trans S'') ?_
    simpa using R''
end


noncomputable def newsOf (h : Heap) (as : List Addr) : List (Addr × Obj) := as.filterMap fun a => (h.get? a).map fun o => (a, o)
theorem newsOf_iff {h : Heap} {as : List Addr} {p : Addr × Obj} : p ∈ newsOf h as ↔ p.1 ∈ as ∧ h.get? p.1 = some p.2 := by
  obtain ⟨a, o⟩ := p
  unfold newsOf
  rw [List.mem_filterMap]
  constructor
  · rintro ⟨b, hb, e⟩
    obtain ⟨o', ho, e'⟩ := Option.map_eq_some_iff.mp e
    cases e'; exact ⟨hb, ho⟩
  · rintro ⟨h1, h2⟩
    exact ⟨a, h1, by rw [h2]; rfl⟩
theorem newsOf_sub {h : Heap} {as : List Addr} {b : Addr} (n : b ∉ as) : b ∉ (newsOf h as).map (·.1) := fun q => by
  obtain ⟨p, hp, rfl⟩ := List.mem_map.mp q
  exact n (newsOf_iff.mp hp).1
theorem Inv.news {G : GX} {F : FX} {m as σ s} (I : Inv G F m as σ s) : News F.h₀ F.L s.heap (newsOf s.heap as) := fun p hp =>
  let ⟨a, b⟩ := newsOf_iff.mp hp; ⟨b, (I.sep _ a).1, (I.sep _ a).2⟩

theorem lookup_reverse {α : Type} {l : List (Str × α)} (nd : (l.map (·.1)).Nodup) (x : Str) : l.reverse.lookup x = l.lookup x := by
  induction l with
  | nil => rfl
  | cons p l ih =>
    obtain ⟨y, a⟩ := p
    rw [List.map_cons, List.nodup_cons] at nd
    rw [List.reverse_cons, List.lookup_append, List.lookup_cons, ih nd.2]
    by_cases q : x = y
    · subst q
      have : l.lookup x = none := by
        cases e : l.lookup x with
        | none => rfl
        | some b =>
          exfalso
          refine nd.1 (List.mem_map.mpr ⟨(x, b), ?_, rfl⟩)
          clear ih nd
          induction l with
          | nil => cases e
          | cons p l ih =>
            obtain ⟨z, c⟩ := p
            rw [List.lookup_cons] at e
            by_cases q : x = z
            · subst q; simp at e; subst e; exact .head _
            · rw [show (x == z) = false from by simpa using q] at e; exact .tail _ (ih e)
      rw [this]; simp
    · have hq : (x == y) = false := by simpa using q
      cases e : l.lookup x with
      | none => simp [List.lookup, hq, e]
      | some b => simp [List.lookup, hq, e]
theorem lookup_zip {h : Heap} {as : List Addr} : ∀ {xs : List Str} {ps : List PV} {vs : List Value} {x : Str} {p : PV}, VRs h as ps vs → (xs.zip ps).lookup x = some p → ∃ v, (xs.zip vs).lookup x = some v ∧ VR h as p v
  | [], _, _, _, _, _, e => by simp at e
  | y :: xs, [], _, _, _, _, e => by simp at e
  | y :: xs, q :: ps, vs, x, p, V, e => by
    rw [VRs] at V; obtain ⟨v, r, rfl, hv, hr⟩ := V
    rw [List.zip_cons_cons, List.lookup_cons] at e ⊢
    by_cases z : x = y
    · subst z; simp at e; subst e; exact ⟨v, by simp, hv⟩
    · rw [show (x == y) = false from by simpa using z] at e ⊢
      exact lookup_zip hr e
theorem nodup_zip {α : Type} : ∀ {xs : List Str} {vs : List α}, xs.Nodup → ((xs.zip vs).map (·.1)).Nodup
  | [], _, _ => by simp
  | _ :: _, [], _ => by simp
  | x :: xs, v :: vs, h => by
    rw [List.nodup_cons] at h
    rw [List.zip_cons_cons, List.map_cons, List.nodup_cons]
    refine ⟨fun q => h.1 ?_, nodup_zip h.2⟩
    obtain ⟨p, hp, e⟩ := List.mem_map.mp q
    have := (List.of_mem_zip hp).1
    rw [e] at this; exact this
theorem lookup_mem {α : Type} : ∀ {l : List (Str × α)} {x : Str} {a : α}, l.lookup x = some a → (x, a) ∈ l
  | (y, c) :: l, x, a, e => by
    rw [List.lookup_cons] at e
    by_cases q : x = y
    · subst q; simp at e; subst e; exact .head _
    · rw [show (x == y) = false from by simpa using q] at e; exact .tail _ (lookup_mem e)

theorem vs0 {P : List Value → Prop} {vs : List Value} (h : vs.length = 0) (k : P []) : P vs := by rw [List.length_eq_zero_iff.mp h]; exact k
theorem vs1 {P : List Value → Prop} {vs : List Value} (h : vs.length = 1) (k : ∀ a, P [a]) : P vs := by
  obtain ⟨a, r, rfl⟩ := List.exists_cons_of_length_eq_add_one h
  exact vs0 (P := fun r => P (a :: r)) (by simpa using h) (k a)
theorem vs2 {P : List Value → Prop} {vs : List Value} (h : vs.length = 2) (k : ∀ a b, P [a, b]) : P vs := by
  obtain ⟨a, r, rfl⟩ := List.exists_cons_of_length_eq_add_one h
  exact vs1 (P := fun r => P (a :: r)) (by simpa using h) (k a)
theorem vs3 {P : List Value → Prop} {vs : List Value} (h : vs.length = 3) (k : ∀ a b c, P [a, b, c]) : P vs := by
  obtain ⟨a, r, rfl⟩ := List.exists_cons_of_length_eq_add_one h
  exact vs2 (P := fun r => P (a :: r)) (by simpa using h) (k a)
theorem vs4 {P : List Value → Prop} {vs : List Value} (h : vs.length = 4) (k : ∀ a b c d, P [a, b, c, d]) : P vs := by
  obtain ⟨a, r, rfl⟩ := List.exists_cons_of_length_eq_add_one h
  exact vs3 (P := fun r => P (a :: r)) (by simpa using h) (k a)
theorem vs5 {P : List Value → Prop} {vs : List Value} (h : vs.length = 5) (k : ∀ a b c d e, P [a, b, c, d, e]) : P vs := by
  obtain ⟨a, r, rfl⟩ := List.exists_cons_of_length_eq_add_one h
  exact vs4 (P := fun r => P (a :: r)) (by simpa using h) (k a)
theorem vs6 {P : List Value → Prop} {vs : List Value} (h : vs.length = 6) (k : ∀ a b c d e f, P [a, b, c, d, e, f]) : P vs := by
  obtain ⟨a, r, rfl⟩ := List.exists_cons_of_length_eq_add_one h
  exact vs5 (P := fun r => P (a :: r)) (by simpa using h) (k a)
/-- what a call of a def does, wherever it is called -/
noncomputable def Cl (G : GX) (n : Nat) (f : Addr) (ps : List PV) (σ : List Cell) (Q : PV → List Cell → Prop) : Prop :=
  ∀ F : FX, F.Ok G n → ∀ A : Around, A.frames = some (F.env :: F.outer) → A.handled = none → A.depth ≤ F.A.depth + 2 → A.units ≤ F.A.units + 6 → ∀ m as s vs, Inv G F m as σ s → VRs s.heap as ps vs →
    ∀ R : Result → Shared → Prop, (∀ v s', PE G F m as s.heap Q v s' → R (.ok (.ret v)) s') → codeAny (model G.prog G.w) A (.call (.ref f) ⟨vs, []⟩) R s

theorem Cl.op {G : GX} {n : Nat} {f : Addr} {ps : List PV} {σ : List Cell} {Q : PV → List Cell → Prop} (h : Cl G n f ps σ Q) {F : FX} (O : F.Ok G n) : OpN G F σ ps (fun vs => call (.ref f) vs) Q :=
  fun m as s vs I V => wpAny_call (h F O F.A O.fr O.hh (by omega) (by omega) m as s vs I V _ fun v s' x => x)
theorem Cl.mono {G : GX} {n : Nat} {f : Addr} {ps : List PV} {σ : List Cell} {Q Q' : PV → List Cell → Prop} (h : Cl G n f ps σ Q) (k : ∀ p σ', Q p σ' → Q' p σ') : Cl G n f ps σ Q' :=
  fun F O A a b c d m as s vs I V R hR => h F O A a b c d m as s vs I V R fun v s' ⟨p, σ', as', I', S, V', q⟩ => hR v s' ⟨p, σ', as', I', S, V', k _ _ q⟩
theorem Cl.le {G : GX} {n k : Nat} {f : Addr} {ps : List PV} {σ : List Cell} {Q : PV → List Cell → Prop} (h : Cl G n f ps σ Q) (hk : n ≤ k) : Cl G k f ps σ Q :=
  fun F O => h F (O.le hk)

theorem codeAnyM {M : Model} {A : Around} {c : Code} {R : Result → Shared → Prop} {s : Shared} (h : codeAny M A c R s) {R' : Result → Shared → Prop} (k : ∀ r s, R r s → R' r s) : codeAny M A c R' s := codeAny_mono h k

/-- the code of a def, entered from a frame -/
theorem def_code {G : GX} {F : FX} {n : Nat} (O : F.Ok G (n + 1)) {A : Around} (hA : A.frames = some (F.env :: F.outer)) (hAh : A.handled = none) (hAd : A.depth ≤ F.A.depth + 2) (hAu : A.units ≤ F.A.units + 6)
    {f : Addr} {name qual : Str} {params : Arguments} {body : List Stmt} {scope : Scope} {dV kV doc pm cdv ct oc : Value} {an od : Option Addr} {osl : Array (Option Value)} {xs : List Str} {ps : List PV} {σ : List Cell} {Q : PV → List Cell → Prop}
    (ho : G.K.lookup f = some ⟨oc, od, .func (fnOf name qual params body scope dV kV doc pm an cdv ct), osl⟩) (hcd : codeIn G.K cdv qual = true)
    {m as s} {vs : List Value} (I : Inv G F m as σ s) (V : VRs s.heap as ps vs) (hbind : BindsTo s (fnOf name qual params body scope dV kV doc pm an cdv ct) ⟨vs, []⟩ (xs.zip vs))
    (hnd : xs.Nodup) (hloc : ∀ x ∈ xs, scope.names.lookup x = some .local)
    (hbody : ∀ F' : FX, F'.Ok G n → F'.env.scope = scope → F'.env.cells = [] → WPS G F' (xs.zip ps) σ body (fun _ σ' => Q .none σ') Q)
    (hco : scope.isCoroutine = false) (hgen : scope.isGenerator = false) (hk : scope.kind = .function) (hcell : ∀ x ∈ scope.names, x.2 ≠ .cell)
    {R : Result → Shared → Prop} (hR : ∀ v s', PE G F m as s.heap Q v s' → R (.ok (.ret v)) s') : codeAny (model G.prog G.w) A (.call (.ref f) ⟨vs, []⟩) R s := by
  have OA : (⟨F.A₀, A, F.base, F.h₀, F.outer, F.env, F.L, F.gens, F.os⟩ : FX).A = A := rfl
  refine code_defG O.B I.fr O.X I.news O.T hA O.ef O.ek ho hcd (by have := O.hd; show A.depth < 1000; omega) hbind (fun y hy => ?_) (fun g L' h₁ FG FL N' B' X' T' GS => ?_) hco hgen hk hcell
  · exact hloc _ (List.of_mem_zip hy).1
  let F' : FX := { A₀ := A, A := A.deeper (envOf qual scope L' f cdv), base := F.base, h₀ := g, outer := F.env :: F.outer, env := envOf qual scope L' f cdv, L := L', gens := F.gens, os := F.os }
  have O' : F'.Ok G n := ⟨B', X', T', Around.frames_deeper hA, rfl, hk, rfl, hAh, by have := O.hd; show A.depth + 1 + 4 * n ≤ 600; omega, by have := O.hu; show A.units + 3 + 12 * n ≤ 6000; omega⟩
  have up : ∀ b o, s.heap.get? b = some o → h₁.get? b = some o := fun b o e => by
    by_cases q : b ∈ as
    · exact (N' (b, o) (newsOf_iff.mpr ⟨q, e⟩)).1
    · exact FL.keep b o (GS b o e (newsOf_sub q))
  have st : Stp F.L s.heap as h₁ as := ⟨fun b o e _ _ => up b o e, List.prefix_refl _, fun _ x y => absurd x y, I.ns⟩
  let s₁ : Shared := { s with heap := h₁, toks := s.toks + (xs.zip vs).length }
  have I₁ : Inv G F' (fun y => (xs.zip vs).reverse.lookup y) as σ s₁ := ⟨FL, I.nd, I.len, fun a ha => by
      obtain ⟨o, e⟩ := I.live ha
      exact (N' (a, o) (newsOf_iff.mpr ⟨ha, e⟩)).2, fun i a c h1 h2 => (I.cr i a c h1 h2).stp st (up a), I.gens, I.os⟩
  have nd : ((xs.zip vs).map (·.1)).Nodup := nodup_zip hnd
  have R₁ : ER F'.L (fun y => (xs.zip vs).reverse.lookup y) F'.env s₁.heap as (xs.zip ps) := ⟨hk, rfl, rfl, fun x p e => by
    obtain ⟨v, hv, Vv⟩ := lookup_zip V e
    exact ⟨v, .own rfl (hloc x (List.of_mem_zip (lookup_mem hv)).1) (by rw [lookup_reverse nd]; exact hv), Vv.stp st⟩⟩
  refine wpm (hbody F' O' rfl rfl _ as s₁ I₁ R₁) fun fl s' H => ?_
  obtain ⟨m', σ', as', I', S', q⟩ := H
  have fin : ∀ (pv : PV) (v : Value), VR s'.heap as' pv v → Q pv σ' → LeaveK F.h₀ F.L m g R v s' := fun pv v Vv q => by
    refine leaveK_ I'.fr I'.news fun Fr' N₂ => hR _ _ ⟨pv, σ', as', ⟨Fr', I'.nd, I'.len, fun a ha => ?_, I'.cr, I'.gens, I'.os⟩, ⟨fun b o e n nl => ?_, S'.pre, fun a ha n => ?_, I.ns⟩, Vv, q⟩
    · obtain ⟨o, e⟩ := I'.live ha
      exact (N₂ (a, o) (newsOf_iff.mpr ⟨ha, e⟩)).2
    · refine S'.keep b o (up b o e) n fun z => ?_
      have h1 := Heap.lt_size (GS b o e (newsOf_sub n))
      have h2 : g.objs.size ≤ L' := FL.above
      have z' : b = L' := z
      exact absurd (Nat.lt_of_lt_of_le h1 h2) (z' ▸ Nat.lt_irrefl _)
    · cases e : s.heap.get? a with
      | none => rfl
      | some o => have := S'.fresh a ha n; rw [show s₁.heap = h₁ from rfl, up a o e] at this; cases this
  cases fl with
  | next => obtain ⟨ρ', _, q⟩ := q; exact fin .none .none (by rw [VR]) q
  | ret v => obtain ⟨pv, Vv, q⟩ := q; exact fin pv v Vv q
  | brk => exact q.elim
  | cont => exact q.elim

theorem Cl.def {G : GX} {n : Nat} {f : Addr} {name qual : Str} {params : Arguments} {body : List Stmt} {scope : Scope} {dV kV doc pm cdv ct oc : Value} {an od : Option Addr} {osl : Array (Option Value)} {ps : List PV} {σ : List Cell} {Q : PV → List Cell → Prop} (xs : List Str)
    (ho : G.K.lookup f = some ⟨oc, od, .func (fnOf name qual params body scope dV kV doc pm an cdv ct), osl⟩) (hcd : codeIn G.K cdv qual = true)
    (hbind : ∀ (s : Shared) (vs : List Value), G.K.In s.heap → vs.length = ps.length → BindsTo s (fnOf name qual params body scope dV kV doc pm an cdv ct) ⟨vs, []⟩ (xs.zip vs))
    (hnd : xs.Nodup) (hloc : ∀ x ∈ xs, scope.names.lookup x = some .local)
    (hbody : ∀ F' : FX, F'.Ok G n → F'.env.scope = scope → F'.env.cells = [] → WPS G F' (xs.zip ps) σ body (fun _ σ' => Q .none σ') Q)
    (hco : scope.isCoroutine = false := by rfl) (hgen : scope.isGenerator = false := by rfl) (hk : scope.kind = .function := by rfl) (hcell : ∀ x ∈ scope.names, x.2 ≠ .cell := by decide) : Cl G (n + 1) f ps σ Q := by
  intro F O A hA hAh hAd hAu m as s vs I V R hR
  exact def_code (ps := ps) O hA hAh hAd hAu ho hcd I V (hbind s vs (O.X.keeps I.fr.keep) V.length) hnd hloc hbody hco hgen hk hcell hR

section
variable {G : GX} {F : FX} {env : Env} {ρ : PEnv} {σ : List Cell}
/-- a call by a name of the top -/
theorem WPE.call {n : Nat} (O : F.Ok G n) {fn : Str} {fp pos : Pos} {fa : Addr} {e : Expr} {es : List Expr} {Q : PV → List Cell → Prop} (hx : env.kindOf fn = some .globalImplicit) (hf : nsIn G.K mainGlobals fn = some (some (.ref fa))) (hk : keepIn G.K (.ref fa) = true)
    (h : WPL G F env ρ σ pos (e :: es) fun ps σ' => OpN G F σ' ps (fun vs => PySem.call (.ref fa) vs) Q) (hd : (fn == ("__debug__" : Str)) = false := by decide)
    (he : isStar e = false := by rfl) (hpl : es.any isStar = false := by rfl) :
    WPE G F env ρ σ (.Call (.Name fn fp) (e :: es) [] pos) Q := fun m as s I R =>
  Call_ (name_top O I R hx hf (callWith_K O.X hk (wpm (h m as s I R) fun vs s₁ ⟨ps, σ₁, as₁, I₁, S₁, V₁, q₁⟩ => ⟨O.X.keeps I₁.fr.keep, wpm (q₁ m as₁ s₁ vs I₁ V₁) fun _ _ x => x.trans S₁⟩) (star_cons he) (star_any hpl)) hd) call_eq
theorem WPE.call0 {n : Nat} (O : F.Ok G n) {fn : Str} {fp pos : Pos} {fa : Addr} {Q : PV → List Cell → Prop} (hx : env.kindOf fn = some .globalImplicit) (hf : nsIn G.K mainGlobals fn = some (some (.ref fa))) (hk : keepIn G.K (.ref fa) = true)
    (h : OpN G F σ [] (fun vs => PySem.call (.ref fa) vs) Q) (hd : (fn == ("__debug__" : Str)) = false := by decide) :
    WPE G F env ρ σ (.Call (.Name fn fp) [] [] pos) Q := fun m as s I R =>
  Call_ (name_top O I R hx hf (callWith_K0 (O.X.keeps I.fr.keep) hk (h m as s [] I VRs.nil)) hd) call_eq
end

section
variable {G : GX} {F : FX} {env : Env} {ρ : PEnv} {σ : List Cell} {Q : PV → List Cell → Prop}

theorem VR.eInt {h as i v} (H : VR h as (.int i) v) : ∃ t, v = .int i t := by rw [VR] at H; exact H
theorem VR.eStr {h as x v} (H : VR h as (.str x) v) : ∃ t, v = .str x t := by rw [VR] at H; exact H
theorem VR.eBool {h as b v} (H : VR h as (.bool b) v) : v = .bool b := by rw [VR] at H; exact H
theorem VR.eNone {h as v} (H : VR h as .none v) : v = .none := by rw [VR] at H; exact H
theorem VR.eRef {h as i v} (H : VR h as (.ref i) v) : ∃ a : Addr, as[i]? = some a ∧ v = .ref a := by rw [VR] at H; exact H
theorem VR.eTup {h as l v} (H : VR h as (.tup l) v) : ∃ a vs, v = .ref a ∧ a ∉ as ∧ IsTup h a (List.toArray vs) ∧ VRs h as l vs := by rw [VR] at H; exact H
theorem VR.eLst {h as l v} (H : VR h as (.lst l) v) : ∃ a vs, v = .ref a ∧ a ∉ as ∧ h.IsList a (List.toArray vs) ∧ VRs h as l vs := by rw [VR] at H; exact H
theorem VR.int {h as i t} : VR h as (.int i) (.int i t) := by rw [VR]; exact ⟨_, rfl⟩
theorem VR.bool {h as b} : VR h as (.bool b) (.bool b) := by rw [VR]
theorem VR.none {h as} : VR h as .none .none := by rw [VR]

-- whole numbers
theorem Op2.add {a b : Int} (h : Q (.int (a + b)) σ) : Op2 G F σ (.int a) (.int b) (binaryOp .Add) Q := fun m as s v u I V U => by
  obtain ⟨_, rfl⟩ := V.eInt; obtain ⟨_, rfl⟩ := U.eInt; exact add_int (PE.ret (I.toks _) rfl VR.int h)
theorem Op2.sub {a b : Int} (h : Q (.int (a - b)) σ) : Op2 G F σ (.int a) (.int b) (binaryOp .Sub) Q := fun m as s v u I V U => by
  obtain ⟨_, rfl⟩ := V.eInt; obtain ⟨_, rfl⟩ := U.eInt; exact sub_int (PE.ret (I.toks _) rfl VR.int h)
theorem Op2.mul {a b : Int} (hb : IntMulOk a b) (h : Q (.int (a * b)) σ) : Op2 G F σ (.int a) (.int b) (binaryOp .Mult) Q := fun m as s v u I V U => by
  obtain ⟨_, rfl⟩ := V.eInt; obtain ⟨_, rfl⟩ := U.eInt; exact mul_int (PE.ret (I.toks _) rfl VR.int h) hb
theorem Op2.mod {a b : Int} (hb : b ≠ 0) (h : Q (.int (a.fmod b)) σ) : Op2 G F σ (.int a) (.int b) (binaryOp .Mod) Q := fun m as s v u I V U => by
  obtain ⟨_, rfl⟩ := V.eInt; obtain ⟨_, rfl⟩ := U.eInt; exact mod_int' hb (PE.ret (I.toks _) rfl VR.int h)
theorem Op2.div {a b : Int} (hb : b ≠ 0) (hs : b.natAbs < 4294967296) (h : Q (.int (a.fdiv b)) σ) : Op2 G F σ (.int a) (.int b) (binaryOp .FloorDiv) Q := fun m as s v u I V U => by
  obtain ⟨_, rfl⟩ := V.eInt; obtain ⟨_, rfl⟩ := U.eInt
  refine floordiv_int hb (PE.ret (I.toks _) rfl VR.int h) (.inl (PyProof.noPylong_of_log2 ?_))
  have : b.natAbs ≠ 0 := by omega
  have h32 : b.natAbs.log2 < 32 := (Nat.log2_lt this).mpr (show b.natAbs < 2 ^ 32 from hs)
  omega
theorem Op2.pow {a b : Int} (h0 : 0 ≤ b) (h1 : b ≤ 1000000) (h2 : a.natAbs < 2 ^ 64) (h : Q (.int (a ^ b.toNat)) σ) : Op2 G F σ (.int a) (.int b) (binaryOp .Pow) Q := fun m as s v u I V U => by
  obtain ⟨_, rfl⟩ := V.eInt; obtain ⟨_, rfl⟩ := U.eInt; exact pow_int_small h0 h1 h2 (PE.ret (I.toks _) rfl VR.int h)
theorem Op1.neg {a : Int} (h : Q (.int (-a)) σ) : Op1 G F σ (.int a) (unaryOp .USub) Q := fun m as s v I V => by
  obtain ⟨_, rfl⟩ := V.eInt; exact neg_int (PE.ret (I.toks _) rfl VR.int h)
theorem Op2.lt {a b : Int} (h : Q (.bool (decide (a < b))) σ) : Op2 G F σ (.int a) (.int b) (compareOp .Lt) Q := fun m as s v u I V U => by
  obtain ⟨_, rfl⟩ := V.eInt; obtain ⟨_, rfl⟩ := U.eInt; exact lt_int (PE.ret I rfl VR.bool h)
theorem Op2.gt {a b : Int} (h : Q (.bool (decide (b < a))) σ) : Op2 G F σ (.int a) (.int b) (compareOp .Gt) Q := fun m as s v u I V U => by
  obtain ⟨_, rfl⟩ := V.eInt; obtain ⟨_, rfl⟩ := U.eInt; exact gt_int (PE.ret I rfl VR.bool h)
theorem Op2.ge {a b : Int} (h : Q (.bool (decide (b ≤ a))) σ) : Op2 G F σ (.int a) (.int b) (compareOp .GtE) Q := fun m as s v u I V U => by
  obtain ⟨_, rfl⟩ := V.eInt; obtain ⟨_, rfl⟩ := U.eInt; exact ge_int (PE.ret I rfl VR.bool h)
theorem Op2.eqI {a b : Int} (h : Q (.bool (a == b)) σ) : Op2 G F σ (.int a) (.int b) (compareOp .Eq) Q := fun m as s v u I V U => by
  obtain ⟨_, rfl⟩ := V.eInt; obtain ⟨_, rfl⟩ := U.eInt; exact eq_int (PE.ret I rfl VR.bool h)
theorem Op2.neI {a b : Int} (h : Q (.bool (a != b)) σ) : Op2 G F σ (.int a) (.int b) (compareOp .NotEq) Q := fun m as s v u I V U => by
  obtain ⟨_, rfl⟩ := V.eInt; obtain ⟨_, rfl⟩ := U.eInt; exact ne_int (PE.ret I rfl VR.bool h)
theorem Op2.eqS {a b : Str} (h : Q (.bool (a == b)) σ) : Op2 G F σ (.str a) (.str b) (compareOp .Eq) Q := fun m as s v u I V U => by
  obtain ⟨_, rfl⟩ := V.eStr; obtain ⟨_, rfl⟩ := U.eStr; exact eq_str (PE.ret I rfl VR.bool h)
theorem Op2.neS {a b : Str} (h : Q (.bool (a != b)) σ) : Op2 G F σ (.str a) (.str b) (compareOp .NotEq) Q := fun m as s v u I V U => by
  obtain ⟨_, rfl⟩ := V.eStr; obtain ⟨_, rfl⟩ := U.eStr; exact ne_str (PE.ret I rfl VR.bool h)

noncomputable def PV.isNone : PV → Bool
  | .none => true
  | _ => false
theorem VR.isNone {h as} : ∀ {p : PV} {v : Value}, VR h as p v → (v == .none) = p.isNone
  | .none, _, H => by rw [H.eNone]; rfl
  | .bool _, _, H => by rw [H.eBool]; rfl
  | .int _, _, H => by obtain ⟨_, rfl⟩ := H.eInt; rfl
  | .str _, _, H => by obtain ⟨_, rfl⟩ := H.eStr; rfl
  | .ref _, _, H => by obtain ⟨_, _, rfl⟩ := H.eRef; rfl
  | .tup _, _, H => by obtain ⟨_, _, rfl, _⟩ := H.eTup; rfl
  | .lst _, _, H => by obtain ⟨_, _, rfl, _⟩ := H.eLst; rfl
theorem Op2.isNone {p : PV} (h : Q (.bool p.isNone) σ) : Op2 G F σ p .none (compareOp .Is) Q := fun m as s v u I V U => by
  rw [U.eNone]
  exact is_none_gen (by rw [V.isNone]; exact PE.ret I rfl VR.bool h)
theorem Op2.notNone {p : PV} (h : Q (.bool (!p.isNone)) σ) : Op2 G F σ p .none (compareOp .IsNot) Q := fun m as s v u I V U => by
  rw [U.eNone]
  exact isnot_none_gen (by rw [V.isNone]; exact PE.ret I rfl VR.bool h)
theorem OpB.bool {b : Bool} {Qb : Bool → List Cell → Prop} (h : Qb b σ) : OpB G F σ (.bool b) truthy Qb := fun m as s v I V => by
  rw [V.eBool]; exact wpAny_truthy_bool ⟨σ, as, I, I.stay, h⟩

-- items
theorem WPE.item {e i : Expr} {pos : Pos} (h : WPE G F env ρ σ e fun a σ₁ => WPE G F env ρ σ₁ i fun b σ₂ => Op2 G F σ₂ a b (subscriptTail e i) Q) : WPE G F env ρ σ (.Subscript e i pos) Q := fun m as s I R =>
  Subscript_ (wpm (h m as s I R) fun v s₁ ⟨p, σ₁, as₁, I₁, S₁, V₁, q₁⟩ => wpm (q₁ m as₁ s₁ I₁ (R.stp S₁)) fun u s₂ ⟨p₂, σ₂, as₂, I₂, S₂, V₂, q₂⟩ => wpm (q₂ m as₂ s₂ v u I₂ (V₁.stp S₂) V₂) fun _ _ x => x.trans (S₁.trans S₂))
theorem isL {h : Heap} {a : Addr} {vs : Array Value} {n : Nat} (e : h.get? a = some (W.listOf vs n)) : h.IsList a vs := ⟨_, e, rfl, n, rfl⟩
theorem Op2.tupAt {e i : Expr} {l : List PV} {k : Int} {j : Nat} {p : PV} (hj : seqIndex? k l.length = some j) (hp : l[j]? = some p) (h : Q p σ) (h1 : -2 ^ 63 ≤ k := by decide) (h2 : k < 2 ^ 63 := by decide)
    (hs : ∀ v u : Value, subscripted i false v u = operate [v, u] (getItem v u) := by intro _ _; rfl) : Op2 G F σ (.tup l) (.int k) (subscriptTail e i) Q := fun m as s v u I V U => by
  obtain ⟨a, vs, rfl, na, ht, hv⟩ := V.eTup
  obtain ⟨_, rfl⟩ := U.eInt
  obtain ⟨x, hx, Vx⟩ := hv.get hp
  exact item_tupleT ht h1 h2 (by rw [hv.length]; exact hj) hx (PE.ret I rfl Vx h) (hs _ _)
theorem Op2.listAt {e i : Expr} {l : List PV} {k : Int} {r : Nat} {p : PV} (hr : σ[r]? = some (.list l)) (h0 : 0 ≤ k) (hp : l[k.toNat]? = some p) (h : Q p σ) (h2 : k < 2 ^ 63)
    (hs : ∀ v u : Value, subscripted i false v u = operate [v, u] (getItem v u) := by intro _ _; rfl) : Op2 G F σ (.ref r) (.int k) (subscriptTail e i) Q := fun m as s v u I V U => by
  obtain ⟨a, ha, rfl⟩ := V.eRef
  obtain ⟨_, rfl⟩ := U.eInt
  obtain ⟨a', ha', vs, n, hg, hv⟩ := I.addr hr
  rw [ha] at ha'; cases ha'
  have hl := isL hg
  obtain ⟨x, hx, Vx⟩ := hv.get hp
  exact tail_any hl.typeIs slot_list_getitem.lookup (wpAny_getItem_list hl h0 h2 (by simpa using hx) (PE.ret I rfl Vx h)) (hs _ _)

-- attributes
theorem NRel.find {h as} : ∀ {l : List (Str × PV)} {es : List DictEntry} {x : Str}, NRel h as l es →
    (∀ p, l.lookup x = some p → ∃ v, getL x es = some (some v) ∧ VR h as p v) ∧ (l.lookup x = .none → getL x es = some .none)
  | [], _, x, H => by
    cases (show _ = [] from H)
    exact ⟨fun p e => by simp at e, fun _ => rfl⟩
  | (y, q) :: l, _, x, H => by
    obtain ⟨hs, t, v, r, rfl, hv, hr⟩ := H
    obtain ⟨k1, k2⟩ := NRel.find (x := x) hr
    unfold getL at k1 k2 ⊢
    rw [List.find?_cons, List.lookup_cons]
    by_cases z : x = y
    · subst z
      have e : (Value.str x t).isStr x = true := by simp [Value.isStr]
      simp only [e, beq_self_eq_true]
      exact ⟨fun p e => by cases e; exact ⟨v, rfl, hv⟩, fun e => by cases e⟩
    · have e : (Value.str y t).isStr x = false := by simp [Value.isStr]; exact fun q => z q.symm
      have e2 : (x == y) = false := by simpa using z
      simp only [e, e2]
      refine ⟨k1, fun q => ?_⟩
      have := k2 q
      split at this
      · cases this
      · rename_i hn
        rw [hn]
        split at this
        · cases this
        · rename_i hr'
          refine if_neg fun q => hr' ?_
          rw [List.any_cons] at q
          simpa [DictEntry.refKey] using q
theorem VR.handed {h as} : ∀ {p : PV} {v : Value}, VR h as p v → handedIn v = true
  | .none, _, H => by rw [H.eNone]; rfl
  | .bool _, _, H => by rw [H.eBool]; rfl
  | .int _, _, H => by obtain ⟨_, rfl⟩ := H.eInt; rfl
  | .str _, _, H => by obtain ⟨_, rfl⟩ := H.eStr; rfl
  | .ref _, _, H => by obtain ⟨_, _, rfl⟩ := H.eRef; rfl
  | .tup _, _, H => by obtain ⟨_, _, rfl, _⟩ := H.eTup; rfl
  | .lst _, _, H => by obtain ⟨_, _, rfl, _⟩ := H.eLst; rfl

theorem attr_eq {e : Expr} {name : Str} {pos : Pos} (hb : ∀ t, attributeBase e name env t = t) : eval (Expr.Attribute e name pos) env = (do let o ← eval e env; standAt (Pos.atName pos); let r ← holding [o] (getAttr o name true); letTemporaryGo e o r; pure r) := by
  show (attributeBase e name env (eval e env) >>= fun o => _) = _
  rw [hb]
theorem meth_form {env : Env} {pos : Pos} {es : List Expr} (hs : es.any isStar = false) (hn : es.length < 30) : methodCallForm (es.length + 0) (backTo pos (starEach es env)) (backToKw pos (keywordEach [] env)) = true := by
  have h1 := star_any (env := env) (pos := pos) hs
  unfold methodCallForm
  have h2 : ((backTo pos (starEach es env)).all fun x => !x.1) = true := by
    rw [List.all_eq_not_any_not]
    simp only [Bool.not_not]
    rw [h1]; rfl
  rw [h2]
  show (true && true && decide (es.length + 0 + 0 < 30)) = true
  simp; exact hn
/-- a call of a method: what the arm of the text becomes -/
theorem meth_eq {o : Expr} {name : Str} {apos pos : Pos} {es : List Expr} (hb : ∀ t, attributeBase o name env t = t) (hs : es.any isStar = false) (hn : es.length < 30) (hl : (apos.endLine == pos.line) = true) :
    eval (Expr.Call (Expr.Attribute o name apos) es [] pos) env = (do let ov ← eval o env; standAt (Pos.atName apos); let __x ← holding [ov] (getMethod ov name (do return (← importBound o env).getD true)); match __x with | (f, first) => callWith pos f first (backTo pos (starEach es env)) (backToKw pos (keywordEach [] env))) := by
  show (attributeBase o name env (eval o env) >>= fun ov => standAt (Pos.atName apos) >>= fun _ => methodCall o name apos pos env ov (es.length + 0) (backTo pos (starEach es env)) (backToKw pos (keywordEach [] env))) = _
  rw [hb]
  congr 1
  funext ov
  congr 1
  funext _
  unfold methodCall
  rw [meth_form hs hn]
  have : methodCallPos true o env apos pos = pure pos := by unfold methodCallPos; rw [hl]; rfl
  rw [this]
  rfl
theorem WPE.attr {e : Expr} {name : Str} {pos : Pos} (h : WPE G F env ρ σ e fun a σ₁ => Op1 G F σ₁ a (fun v => getAttr v name true) Q)
    (hb : ∀ t, attributeBase e name env t = t := by intro _; rfl) : WPE G F env ρ σ (.Attribute e name pos) Q := fun m as s I R =>
  Attribute_any_ (wpm (h m as s I R) fun v s₁ ⟨p, σ₁, as₁, I₁, S₁, V₁, q₁⟩ => wpm (q₁ m as₁ s₁ v I₁ V₁) fun _ _ x => x.trans S₁) (attr_eq hb)

/-- what the class of an instance must be -/
structure PlainCls (K : Frag) (C : Addr) (name : Str) : Prop where
  get : plainGet K C name = true
  dict : hasDictIn K C = true
  none : findIn K (.ref C) name = some none
theorem instAt {m as s} (I : Inv G F m as σ s) {i d : Nat} {C : Addr} {l : List (Str × PV)} {a : Addr} (ha : as[i]? = some a) (hi : σ[i]? = some (.inst C d)) (hd : σ[d]? = some (.names l)) :
    ∃ dx es n, as[d]? = some dx ∧ s.heap.get? dx = some (dictOf es n) ∧ NRel s.heap as l es ∧ W.InstAt s.heap a (instObj C dx) C (some (dictOf es n)) := by
  obtain ⟨dx, hdx, hg⟩ := I.cr i a _ ha hi
  obtain ⟨dx', hdx', es, n, hge, nr⟩ := I.addr hd
  rw [hdx] at hdx'; cases hdx'
  exact ⟨dx, es, n, hdx, hge, nr, ⟨hg, rfl, rfl, hge⟩⟩
theorem Op1.attr {n : Nat} (O : F.Ok G n) {i d : Nat} {C : Addr} {l : List (Str × PV)} {name : Str} {p : PV} (hi : σ[i]? = some (.inst C d)) (hd : σ[d]? = some (.names l)) (hl : l.lookup name = some p) (hc : PlainCls G.K C name) (h : Q p σ) :
    Op1 G F σ (.ref i) (fun v => getAttr v name true) Q := fun m as s v I V => by
  obtain ⟨a, ha, rfl⟩ := V.eRef
  obtain ⟨dx, es, k, _, _, nr, IA⟩ := instAt I ha hi hd
  obtain ⟨x, hx, Vx⟩ := nr.find.1 p hl
  exact get_own I.fr O.X IA hc.get hc.dict hc.none rfl hx Vx.handed (PE.ret (I.toks _) rfl Vx h)

/-- a method of an instance -/
structure MethCls (K : Frag) (C f : Addr) (name : Str) : Prop where
  get : plainGet K C name = true
  find : findIn K (.ref C) name = some (some (.ref f))
  fn : isFn K (.ref f) = true
  keep : keepIn K (.ref f) = true
theorem WPE.meth {n : Nat} (O : F.Ok G n) {o : Expr} {name : Str} {apos pos : Pos} {e : Expr} {es : List Expr} {C f : Addr} (hm : MethCls G.K C f name)
    (h : WPE G F env ρ σ o fun p σ₁ => ∃ i d l, p = .ref i ∧ σ₁[i]? = some (.inst C d) ∧ σ₁[d]? = some (.names l) ∧ l.lookup name = none ∧ WPL G F env ρ σ₁ pos (e :: es) fun ps σ₂ => OpN G F σ₂ (.ref i :: ps) (fun vs => PySem.call (.ref f) vs) Q)
    (hb : ∀ t, attributeBase o name env t = t := by intro _; rfl) (hl : (apos.endLine == pos.line) = true := by rfl) (hs : (e :: es).any isStar = false := by rfl) (hn : (e :: es).length < 30 := by simp) :
    WPE G F env ρ σ (.Call (.Attribute o name apos) (e :: es) [] pos) Q := fun m as s I R => by
  refine methodCall_KW (wpm (h m as s I R) fun v s₁ H => ?_) (meth_eq hb hs hn hl)
  obtain ⟨p, σ₁, as₁, I₁, S₁, V₁, i, d, l, rfl, hi, hd, hl, q⟩ := H
  obtain ⟨a, ha, rfl⟩ := V₁.eRef
  obtain ⟨dx, es', k, _, _, nr, IA⟩ := instAt I₁ ha hi hd
  refine method_inst I₁.fr O.X IA hm.get hm.find hm.fn (nr.find.2 hl) ?_
  simp only [List.any_cons, Bool.or_eq_false_iff] at hs
  refine callWith_K O.X hm.keep (wpm (q m as₁ s₁ I₁ (R.stp S₁)) fun vs s₂ H => ?_) (star_cons hs.1) (star_any hs.2)
  obtain ⟨ps, σ₂, as₂, I₂, S₂, V₂, q₂⟩ := H
  refine ⟨O.X.keeps I₂.fr.keep, wpm (q₂ m as₂ s₂ (.ref a :: vs) I₂ (.cons (V₁.stp S₂) V₂)) fun _ _ x => x.trans (S₁.trans S₂)⟩
theorem WPE.meth0 {n : Nat} (O : F.Ok G n) {o : Expr} {name : Str} {apos pos : Pos} {C f : Addr} (hm : MethCls G.K C f name)
    (h : WPE G F env ρ σ o fun p σ₁ => ∃ i d l, p = .ref i ∧ σ₁[i]? = some (.inst C d) ∧ σ₁[d]? = some (.names l) ∧ l.lookup name = none ∧ OpN G F σ₁ [.ref i] (fun vs => PySem.call (.ref f) vs) Q)
    (hb : ∀ t, attributeBase o name env t = t := by intro _; rfl) (hl : (apos.endLine == pos.line) = true := by rfl) :
    WPE G F env ρ σ (.Call (.Attribute o name apos) [] [] pos) Q := fun m as s I R => by
  refine methodCall_KW (wpm (h m as s I R) fun v s₁ H => ?_) (meth_eq hb rfl (by simp) hl)
  obtain ⟨p, σ₁, as₁, I₁, S₁, V₁, i, d, l, rfl, hi, hd, hl, q⟩ := H
  obtain ⟨a, ha, rfl⟩ := V₁.eRef
  obtain ⟨dx, es', k, _, _, nr, IA⟩ := instAt I₁ ha hi hd
  refine method_inst I₁.fr O.X IA hm.get hm.find hm.fn (nr.find.2 hl) ?_
  exact callWith_K0 (O.X.keeps I₁.fr.keep) hm.keep (wpm (q m as₁ s₁ [.ref a] I₁ (.cons V₁ .nil)) fun _ _ x => x.trans S₁)
end


noncomputable def Cell.ty : Cell → String
  | .list _ => "list"
  | .dict _ => "dict"
  | .tdict _ => "dict"
  | .names _ => "dict"
  | .inst _ _ => "inst"

noncomputable def dget (l : List (Int × PV)) (k : Int) : Option PV := (l.find? fun p => decide (p.1 = k)).map (·.2)
noncomputable def dput (l : List (Int × PV)) (k : Int) (p : PV) : List (Int × PV) := if l.any (fun x => decide (x.1 = k)) = true then l.map fun x => if x.1 = k then (x.1, p) else x else l ++ [(k, p)]
noncomputable def ddel (l : List (Int × PV)) (k : Int) : List (Int × PV) := l.filter fun x => decide (x.1 ≠ k)

theorem KRel.find {h as} : ∀ {l : List (Int × PV)} {kvs : List (Int × Value)} (k : Int), KRel h as l kvs → (∀ p, dget l k = some p → ∃ v, valueAt kvs k = some v ∧ VR h as p v) ∧ (dget l k = none → valueAt kvs k = none)
  | [], _, k, H => by
    cases (show _ = [] from H)
    exact ⟨fun p e => by simp [dget] at e, fun _ => rfl⟩
  | (i, q) :: l, _, k, H => by
    obtain ⟨v, r, rfl, hv, hr⟩ := H
    have ih := KRel.find k hr
    unfold dget valueAt at ih ⊢
    simp only [List.find?_cons]
    by_cases z : i = k
    · simp only [z, decide_true, Option.map_some]
      exact ⟨fun p e => by cases e; exact ⟨v, rfl, hv⟩, fun e => by cases e⟩
    · simp only [z, decide_false]
      exact ih
theorem KRel.any {h as} : ∀ {l : List (Int × PV)} {kvs : List (Int × Value)} (k : Int), KRel h as l kvs → kvs.any (fun x => decide (x.1 = k)) = l.any (fun x => decide (x.1 = k))
  | [], _, k, H => by cases (show _ = [] from H); rfl
  | (i, q) :: l, _, k, H => by
    obtain ⟨v, r, rfl, hv, hr⟩ := H
    simp only [List.any_cons, KRel.any k hr]
theorem KRel.map {h as} {p : PV} {v : Value} (V : VR h as p v) (k : Int) : ∀ {l : List (Int × PV)} {kvs : List (Int × Value)}, KRel h as l kvs → KRel h as (l.map fun x => if x.1 = k then (x.1, p) else x) (kvs.map fun x => if x.1 = k then (x.1, v) else x)
  | [], _, H => by cases (show _ = [] from H); rfl
  | (i, q) :: l, _, H => by
    obtain ⟨u, r, rfl, hv, hr⟩ := H
    by_cases z : i = k
    · simp only [List.map_cons, z, if_true]; exact ⟨v, _, rfl, V, KRel.map V k hr⟩
    · simp only [List.map_cons, z, if_false]; exact ⟨u, _, rfl, hv, KRel.map V k hr⟩
theorem KRel.snoc {h as} {p : PV} {v : Value} (V : VR h as p v) (k : Int) : ∀ {l : List (Int × PV)} {kvs : List (Int × Value)}, KRel h as l kvs → KRel h as (l ++ [(k, p)]) (kvs ++ [(k, v)])
  | [], _, H => by cases (show _ = [] from H); exact ⟨v, _, rfl, V, rfl⟩
  | (i, q) :: l, _, H => by
    obtain ⟨u, r, rfl, hv, hr⟩ := H
    exact ⟨u, _, rfl, hv, KRel.snoc V k hr⟩
theorem KRel.stored {h as} {p : PV} {v : Value} (V : VR h as p v) (k : Int) {l : List (Int × PV)} {kvs : List (Int × Value)} (H : KRel h as l kvs) : KRel h as (dput l k p) (PySem.stored kvs k v) := by
  unfold dput PySem.stored
  rw [KRel.any k H]
  split
  · exact KRel.map V k H
  · exact KRel.snoc V k H
theorem KRel.without {h as} (k : Int) : ∀ {l : List (Int × PV)} {kvs : List (Int × Value)}, KRel h as l kvs → KRel h as (ddel l k) (PySem.without kvs k)
  | [], _, H => by cases (show _ = [] from H); rfl
  | (i, q) :: l, _, H => by
    obtain ⟨u, r, rfl, hv, hr⟩ := H
    have ih := KRel.without k hr
    unfold ddel PySem.without at ih ⊢
    by_cases z : i = k
    · simp only [List.filter_cons, z, ne_eq, not_true_eq_false, decide_false, Bool.false_eq_true, if_false]; exact ih
    · simp only [List.filter_cons, ne_eq, z, not_false_eq_true, decide_true, if_true]; exact ⟨u, _, rfl, hv, ih⟩
theorem KRel.len {h as} : ∀ {l : List (Int × PV)} {kvs : List (Int × Value)}, KRel h as l kvs → kvs.length = l.length
  | [], _, H => by cases (show _ = [] from H); rfl
  | (i, q) :: l, _, H => by
    obtain ⟨u, r, rfl, hv, hr⟩ := H
    simp [KRel.len hr]
theorem ddel_none {l : List (Int × PV)} {k : Int} (h : dget l k = none) : ddel l k = l := by
  unfold dget at h
  rw [Option.map_eq_none_iff, List.find?_eq_none] at h
  unfold ddel
  rw [List.filter_eq_self]
  intro x hx
  have := h x hx
  simpa using this

section
variable {G : GX} {F : FX} {env : Env} {ρ : PEnv} {σ : List Cell} {Q : PV → List Cell → Prop}

theorem cell_ty {m as s} (I : Inv G F m as σ s) {i : Nat} {c : Cell} {a : Addr} {T : String} (ha : as[i]? = some a) (hc : σ[i]? = some c) (hT : c.ty = T) (h : T = "list" ∨ T = "dict") : s.TypeIs (.ref a) T ∧ ∃ o, s.heap.get? a = some o ∧ o.dict = none := by
  have H := I.cr i a c ha hc
  cases c with
  | list l => subst hT; obtain ⟨vs, n, e, _⟩ := H; exact ⟨⟨_, e, rfl⟩, _, e, rfl⟩
  | dict l => subst hT; obtain ⟨_, kvs, ⟨o, es, ep, e, x, _⟩, _⟩ := H; exact ⟨⟨_, e, x.1⟩, _, e, x.2.1⟩
  | tdict l => subst hT; obtain ⟨_, kvs, ⟨o, es, ep, e, x, _⟩, _⟩ := H; exact ⟨⟨_, e, x.1⟩, _, e, x.2.1⟩
  | names l => subst hT; obtain ⟨es, n, e, _⟩ := H; exact ⟨⟨_, e, rfl⟩, _, e, rfl⟩
  | inst C d => subst hT; rcases h with h | h <;> simp [Cell.ty] at h

/-- a method of a built-in kind -/
theorem WPE.bmeth {o : Expr} {name : Str} {apos pos : Pos} {e : Expr} {es : List Expr} {T id : String} (pa : PlainAttrs T) (slot : Slot T name id) (hty : typeOf (.builtin id) = pure (.type "method_descriptor")) (hTs : T = "list" ∨ T = "dict")
    (h : WPE G F env ρ σ o fun p σ₁ => ∃ i c, p = .ref i ∧ σ₁[i]? = some c ∧ c.ty = T ∧ WPL G F env ρ σ₁ pos (e :: es) fun ps σ₂ => OpN G F σ₂ (.ref i :: ps) (fun vs => PySem.call (.builtin id) vs) Q)
    (hb : ∀ t, attributeBase o name env t = t := by intro _; rfl) (hl : (apos.endLine == pos.line) = true := by rfl) (hs : (e :: es).any isStar = false := by rfl) (hn : (e :: es).length < 30 := by simp) :
    WPE G F env ρ σ (.Call (.Attribute o name apos) (e :: es) [] pos) Q := fun m as s I R => by
  refine methodCall_KW (wpm (h m as s I R) fun v s₁ H => ?_) (meth_eq hb hs hn hl)
  obtain ⟨p, σ₁, as₁, I₁, S₁, V₁, i, c, rfl, hi, hT, q⟩ := H
  obtain ⟨a, ha, rfl⟩ := V₁.eRef
  obtain ⟨t, o', ho', hd⟩ := cell_ty I₁ ha hi hT hTs
  refine getMethod_builtin t pa slot hty (fun b e => by cases e; exact ⟨o', ho', hd⟩) ?_
  simp only [List.any_cons, Bool.or_eq_false_iff] at hs
  refine callWith_method1 (wpm (q m as₁ s₁ I₁ (R.stp S₁)) fun vs s₂ H => ?_) (star_cons hs.1) (star_any hs.2)
  obtain ⟨ps, σ₂, as₂, I₂, S₂, V₂, q₂⟩ := H
  exact wpm (q₂ m as₂ s₂ (.ref a :: vs) I₂ (.cons (V₁.stp S₂) V₂)) fun _ _ x => x.trans (S₁.trans S₂)
theorem WPE.bmeth0 {o : Expr} {name : Str} {apos pos : Pos} {T id : String} (pa : PlainAttrs T) (slot : Slot T name id) (hty : typeOf (.builtin id) = pure (.type "method_descriptor")) (hTs : T = "list" ∨ T = "dict")
    (h : WPE G F env ρ σ o fun p σ₁ => ∃ i c, p = .ref i ∧ σ₁[i]? = some c ∧ c.ty = T ∧ OpN G F σ₁ [.ref i] (fun vs => PySem.call (.builtin id) vs) Q)
    (hb : ∀ t, attributeBase o name env t = t := by intro _; rfl) (hl : (apos.endLine == pos.line) = true := by rfl) :
    WPE G F env ρ σ (.Call (.Attribute o name apos) [] [] pos) Q := fun m as s I R => by
  refine methodCall_KW (wpm (h m as s I R) fun v s₁ H => ?_) (meth_eq hb rfl (by simp) hl)
  obtain ⟨p, σ₁, as₁, I₁, S₁, V₁, i, c, rfl, hi, hT, q⟩ := H
  obtain ⟨a, ha, rfl⟩ := V₁.eRef
  obtain ⟨t, o', ho', hd⟩ := cell_ty I₁ ha hi hT hTs
  refine getMethod_builtin t pa slot hty (fun b e => by cases e; exact ⟨o', ho', hd⟩) ?_
  exact callWith_method0 (wpm (q m as₁ s₁ [.ref a] I₁ (.cons V₁ .nil)) fun _ _ x => x.trans S₁)

theorem VRs.one {h as p vs} (H : VRs h as [p] vs) : ∃ v, vs = [v] ∧ VR h as p v := by
  rw [VRs] at H; obtain ⟨v, r, rfl, hv, hr⟩ := H; rw [VRs] at hr; subst hr; exact ⟨v, rfl, hv⟩
theorem VRs.two {h as p q vs} (H : VRs h as [p, q] vs) : ∃ v u, vs = [v, u] ∧ VR h as p v ∧ VR h as q u := by
  rw [VRs] at H; obtain ⟨v, r, rfl, hv, hr⟩ := H; obtain ⟨u, rfl, hu⟩ := hr.one; exact ⟨v, u, rfl, hv, hu⟩
theorem VRs.three {h as p q t vs} (H : VRs h as [p, q, t] vs) : ∃ v u w, vs = [v, u, w] ∧ VR h as p v ∧ VR h as q u ∧ VR h as t w := by
  rw [VRs] at H; obtain ⟨v, r, rfl, hv, hr⟩ := H; obtain ⟨u, w, rfl, hu, hw⟩ := hr.two; exact ⟨v, u, w, rfl, hv, hu, hw⟩

theorem OpN.append {i : Nat} {l : List PV} {p : PV} (hi : σ[i]? = some (.list l)) (hl : l.length ≤ 1000) (h : Q .none (σ.set i (.list (l ++ [p])))) : OpN G F σ [.ref i, p] (fun vs => call (.builtin "list.append") vs) Q := fun m as s vs I V => by
  obtain ⟨v, u, rfl, hv, hu⟩ := V.two
  obtain ⟨a, ha, rfl⟩ := hv.eRef
  obtain ⟨ws, n, hg, hw⟩ := I.cr i a _ ha hi
  refine wpAny_list_append_plain ⟨n, hg⟩ (fun h' hp hs => ?_) (by rw [List.size_toArray, hw.length, sizeLine_eq]; omega)
  obtain ⟨n', hg'⟩ := hp
  have st : Stp F.L s.heap as h' as := ⟨fun b o e na _ => (hs.2 b fun z => na (z ▸ List.mem_of_getElem? ha)).trans e, List.prefix_refl _, fun _ x y => absurd x y, I.ns⟩
  obtain ⟨I', S'⟩ := I.setBut (s' := { s with heap := h' }) (c := .list (l ++ [p])) ha hs ⟨ws ++ [u], n', by rw [hg']; simp [W.listOf], (hw.stp st).append (.cons (hu.stp st) .nil)⟩ rfl rfl
  exact ⟨.none, _, as, I', S', VR.none, h⟩

theorem VRs.snoc {h as} : ∀ {l : List PV} {p : PV} {vs : List Value}, VRs h as (l ++ [p]) vs → ∃ ws v, vs = ws ++ [v] ∧ VRs h as l ws ∧ VR h as p v
  | [], p, vs, H => by obtain ⟨v, rfl, hv⟩ := VRs.one H; exact ⟨[], v, rfl, .nil, hv⟩
  | q :: l, p, vs, H => by
    rw [List.cons_append, VRs] at H
    obtain ⟨v, r, rfl, hv, hr⟩ := H
    obtain ⟨ws, u, rfl, h1, h2⟩ := VRs.snoc hr
    exact ⟨v :: ws, u, rfl, .cons hv h1, h2⟩
theorem OpN.pop {i : Nat} {l : List PV} {p : PV} (hi : σ[i]? = some (.list (l ++ [p]))) (hl : l.length ≤ 1000) (h : Q p (σ.set i (.list l))) : OpN G F σ [.ref i] (fun vs => call (.builtin "list.pop") vs) Q := fun m as s vs I V => by
  obtain ⟨v, rfl, hv⟩ := V.one
  obtain ⟨a, ha, rfl⟩ := hv.eRef
  obtain ⟨ws, n, hg, hw⟩ := I.cr i a _ ha hi
  obtain ⟨ws, u, rfl, hw, hu⟩ := hw.snoc
  have hz : (ws ++ [u]).toArray.size ≤ sizeLine := by rw [List.size_toArray, List.length_append, hw.length, sizeLine_eq]; simp; omega
  have hk : (ws ++ [u]).toArray.size - 1 = ws.length := by rw [List.size_toArray, List.length_append]; rfl
  refine call_meets PySem.F.slot_list_pop ⟨_, hg, rfl⟩ PySem.F.entry_list_pop (PySem.F.args_list_pop_1 _) (PySem.MeetsSeq.list_pop_last a _ n u (by rw [hk]; simp) hz) ⟨hg, ?_⟩
  have hs : Heap.SameBut a s.heap (s.heap.update a (Obj.mapSeq fun xs => xs.eraseIdxIfInBounds ((ws ++ [u]).toArray.size - 1))) := Heap.SameBut.update ..
  have st : Stp F.L s.heap as (s.heap.update a (Obj.mapSeq fun xs => xs.eraseIdxIfInBounds ((ws ++ [u]).toArray.size - 1))) as := ⟨fun b o e na _ => (hs.2 b fun z => na (z ▸ List.mem_of_getElem? ha)).trans e, List.prefix_refl _, fun _ x y => absurd x y, I.ns⟩
  have hq : (s.heap.update a (Obj.mapSeq fun xs => xs.eraseIdxIfInBounds ((ws ++ [u]).toArray.size - 1))).get? a = some (W.listOf ws.toArray (n + 1)) := by
    have q := PySem.IsL.update hg (fun xs => xs.eraseIdxIfInBounds ((ws ++ [u]).toArray.size - 1))
    have e1 : (ws ++ [u]).toArray.eraseIdxIfInBounds ((ws ++ [u]).toArray.size - 1) = ws.toArray := by
      rw [hk, kl_erase, List.append_nil]
    rw [e1, if_neg (by simp)] at q
    exact q
  obtain ⟨I', S'⟩ := I.setBut (s' := { s with heap := s.heap.update a (Obj.mapSeq fun xs => xs.eraseIdxIfInBounds ((ws ++ [u]).toArray.size - 1)) }) (c := .list l) ha hs ⟨ws, n + 1, hq, hw.stp st⟩ rfl rfl
  exact ⟨p, _, as, I', S', hu.stp S', h⟩
end

section
variable {G : GX} {F : FX} {env : Env} {ρ : PEnv} {σ : List Cell} {Q : PV → List Cell → Prop}

theorem Inv.stpBut {m as s} (I : Inv G F m as σ s) {i : Nat} {a : Addr} (ha : as[i]? = some a) {h' : Heap} (hs : Heap.SameBut a s.heap h') : Stp F.L s.heap as h' as :=
  ⟨fun b o e na _ => (hs.2 b fun z => na (z ▸ List.mem_of_getElem? ha)).trans e, List.prefix_refl _, fun _ x y => absurd x y, I.ns⟩
theorem isIntK (prog : Program) (w : World) (k : Int) (t : Tok) : (intKind prog w).is k (.int k t) = true := by simp [intKind, Value.isInt]

theorem OpN.dictGet {i : Nat} {l : List (Int × PV)} {k : Int} (hi : σ[i]? = some (.dict l)) (h : Q ((dget l k).getD .none) σ) : OpN G F σ [.ref i, .int k] (fun vs => call (.builtin "dict.get") vs) Q := fun m as s vs I V => by
  obtain ⟨v, u, rfl, hv, hu⟩ := V.two
  obtain ⟨a, ha, rfl⟩ := hv.eRef
  obtain ⟨t, rfl⟩ := hu.eInt
  obtain ⟨lo, kvs, hd, hk⟩ := I.cr i a _ ha hi
  refine call_meetsIn PySem.F.slot_dict_get hd.typeIs PySem.F.entry_dict_get (PySem.F.args_dict_get_2 _ _) (meets_dict_get (intKind G.prog G.w) a (isIntK _ _ k t) lo) ⟨_, hd.mapOf, ?_⟩
  obtain ⟨h1, h2⟩ := hk.find k
  cases e : Mine.dget l k with
  | none =>
    rw [e] at h
    rw [h2 e]
    exact PE.ret (I.toks _) rfl VR.none h
  | some p =>
    rw [e] at h
    obtain ⟨x, hx, Vx⟩ := h1 p e
    rw [hx]
    exact PE.ret (I.toks _) rfl Vx h

theorem OpN.dictPop {i : Nat} {l : List (Int × PV)} {k : Int} (hi : σ[i]? = some (.dict l)) (hl : l.length ≤ 1000) (h : Q ((dget l k).getD .none) (σ.set i (.dict (ddel l k)))) : OpN G F σ [.ref i, .int k, .none] (fun vs => call (.builtin "dict.pop") vs) Q := fun m as s vs I V => by
  obtain ⟨v, u, x, rfl, hv, hu, hx⟩ := V.three
  obtain ⟨a, ha, rfl⟩ := hv.eRef
  obtain ⟨t, rfl⟩ := hu.eInt
  rw [hx.eNone]
  obtain ⟨lo, kvs, hd, hk⟩ := I.cr i a _ ha hi
  obtain ⟨h1, h2⟩ := hk.find k
  cases e : Mine.dget l k with
  | none =>
    rw [e, ddel_none e] at h
    refine call_meetsIn PySem.F.slot_dict_pop hd.typeIs PySem.F.entry_dict_pop (PySem.F.args_dict_pop_3 _ _ _) (meets_dict_pop_default (intKind G.prog G.w) a (isIntK _ _ k t) lo rfl .none) ⟨kvs, hd, h2 e, ?_⟩
    have hsame : σ.set i (.dict l) = σ := by
      apply List.ext_getElem?
      intro j
      by_cases q : i = j
      · subst q
        have := (List.getElem?_eq_some_iff.mp hi).1
        rw [List.getElem?_set_self this, hi]
      · rw [List.getElem?_set_ne q]
    rw [hsame] at h
    exact PE.ret (I.toks _) rfl VR.none h
  | some p =>
    rw [e] at h
    obtain ⟨y, hy, Vy⟩ := h1 p e
    refine call_meetsIn PySem.F.slot_dict_pop hd.typeIs PySem.F.entry_dict_pop (PySem.F.args_dict_pop_3 _ _ _) (meets_dict_pop_there (intKind G.prog G.w) a (isIntK _ _ k t) [.none] (.inr ⟨_, rfl⟩) rfl) ⟨kvs, y, hd, by rw [hk.len, sizeLine_eq]; omega, hy, fun h' hd' hs => ?_⟩
    have st := I.stpBut ha hs
    obtain ⟨I', S'⟩ := I.setBut (s' := { s with heap := h', toks := s.toks + 1 }) (c := .dict (ddel l k)) ha hs ⟨lo, _, hd', (hk.stp st).without k⟩ rfl rfl
    exact ⟨p, _, as, I', S', Vy.stp S', h⟩

theorem OpU.dset {i : Nat} {l : List (Int × PV)} {k : Int} {p : PV} {Qu : List Cell → Prop} (hi : σ[i]? = some (.dict l)) (hl : l.length ≤ 1000) (h : Qu (σ.set i (.dict (dput l k p)))) :
    OpU G F σ [.ref i, .int k, p] (fun vs => match vs with | [o, k, v] => setItem o k v | _ => unsupported "") Qu := fun m as s vs I V => by
  obtain ⟨v, u, x, rfl, hv, hu, hx⟩ := V.three
  obtain ⟨a, ha, rfl⟩ := hv.eRef
  obtain ⟨t, rfl⟩ := hu.eInt
  obtain ⟨lo, kvs, hd, hk⟩ := I.cr i a _ ha hi
  refine wpAny_setItem_pairs (isIntK G.prog G.w k t) hd (fun h' hd' hs => ?_) (by rw [hk.len, sizeLine_eq]; omega)
  have st := I.stpBut ha hs
  obtain ⟨I', S'⟩ := I.setBut (s' := { s with heap := h', toks := s.toks + 1 }) (c := .dict (dput l k p)) ha hs ⟨lo, _, hd', (hk.stp st).stored (hx.stp st) k⟩ rfl rfl
  exact ⟨_, as, I', S', h⟩
theorem VRs.set {h as} {p : PV} {v : Value} (V : VR h as p v) : ∀ {l : List PV} {vs : List Value} (i : Nat), VRs h as l vs → VRs h as (l.set i p) (vs.set i v)
  | [], _, i, H => by rw [VRs] at H; subst H; exact .nil
  | q :: l, _, i, H => by
    rw [VRs] at H; obtain ⟨u, r, rfl, hu, hr⟩ := H
    cases i with
    | zero => exact .cons V hr
    | succ i => exact .cons hu (VRs.set V i hr)
theorem OpU.lset {i : Nat} {l : List PV} {k : Int} {p : PV} {Qu : List Cell → Prop} (hi : σ[i]? = some (.list l)) (h0 : 0 ≤ k) (hk : k < l.length) (hl : l.length ≤ 1000) (h : Qu (σ.set i (.list (l.set k.toNat p)))) :
    OpU G F σ [.ref i, .int k, p] (fun vs => match vs with | [o, k, v] => setItem o k v | _ => unsupported "") Qu := fun m as s vs I V => by
  obtain ⟨v, u, x, rfl, hv, hu, hx⟩ := V.three
  obtain ⟨a, ha, rfl⟩ := hv.eRef
  obtain ⟨t, rfl⟩ := hu.eInt
  obtain ⟨ws, n, hg, hw⟩ := I.cr i a _ ha hi
  refine ki_setAt hg h0 (by omega) (by rw [List.size_toArray, hw.length]; exact hk) ?_
  have hs : Heap.SameBut a s.heap (s.heap.update a (Obj.mapSeq fun xs => xs.setIfInBounds k.toNat x)) := Heap.SameBut.update ..
  have st := I.stpBut ha hs
  have hq : (s.heap.update a (Obj.mapSeq fun xs => xs.setIfInBounds k.toNat x)).get? a = some (W.listOf (ws.set k.toNat x).toArray n) := by
    have q := PySem.IsL.update hg (fun xs => xs.setIfInBounds k.toNat x)
    have e1 : ws.toArray.setIfInBounds k.toNat x = (ws.set k.toNat x).toArray := by apply Array.toList_inj.mp; simp
    rw [e1, if_pos (by simp)] at q
    exact q
  obtain ⟨I', S'⟩ := I.setBut (s' := { s with heap := s.heap.update a (Obj.mapSeq fun xs => xs.setIfInBounds k.toNat x) }) (c := .list (l.set k.toNat p)) ha hs ⟨_, n, hq, VRs.set (hx.stp st) _ (hw.stp st)⟩ rfl rfl
  exact ⟨_, as, I', S', h⟩

theorem Op2.dictAt {e i : Expr} {l : List (Int × PV)} {k : Int} {r : Nat} {p : PV} (hr : σ[r]? = some (.dict l)) (hp : dget l k = some p) (h : Q p σ)
    (hs : ∀ v u : Value, subscripted i false v u = operate [v, u] (getItem v u) := by intro _ _; rfl) : Op2 G F σ (.ref r) (.int k) (subscriptTail e i) Q := fun m as s v u I V U => by
  obtain ⟨a, ha, rfl⟩ := V.eRef
  obtain ⟨t, rfl⟩ := U.eInt
  obtain ⟨lo, kvs, hd, hk⟩ := I.cr r a _ ha hr
  obtain ⟨x, hx, Vx⟩ := (hk.find k).1 p hp
  exact tail_any hd.typeIs slot_dict_getitem.lookup (wpAny_getItem_of (isIntK G.prog G.w k t) hd.mapOf hx (PE.ret (I.toks _) rfl Vx h)) (hs _ _)
theorem KRel.isSome {h as} {l : List (Int × PV)} {kvs : List (Int × Value)} (H : KRel h as l kvs) (k : Int) : (valueAt kvs k).isSome = (Mine.dget l k).isSome := by
  obtain ⟨h1, h2⟩ := H.find k
  cases e : Mine.dget l k with
  | none => rw [h2 e]; rfl
  | some p => obtain ⟨x, hx, _⟩ := h1 p e; rw [hx]; rfl
theorem Op2.inDict {l : List (Int × PV)} {k : Int} {r : Nat} (hr : σ[r]? = some (.dict l)) (h : Q (.bool (dget l k).isSome) σ) : Op2 G F σ (.int k) (.ref r) (compareOp .In) Q := fun m as s v u I V U => by
  obtain ⟨a, ha, rfl⟩ := U.eRef
  obtain ⟨t, rfl⟩ := V.eInt
  obtain ⟨lo, kvs, hd, hk⟩ := I.cr r a _ ha hr
  exact wpAny_in_of (isIntK G.prog G.w k t) lo hd.mapOf (by rw [hk.isSome]; exact PE.ret (I.toks _) rfl VR.bool h)
theorem Op2.notInDict {l : List (Int × PV)} {k : Int} {r : Nat} (hr : σ[r]? = some (.dict l)) (h : Q (.bool (!(dget l k).isSome)) σ) : Op2 G F σ (.int k) (.ref r) (compareOp .NotIn) Q := fun m as s v u I V U => by
  obtain ⟨a, ha, rfl⟩ := U.eRef
  obtain ⟨t, rfl⟩ := V.eInt
  obtain ⟨lo, kvs, hd, hk⟩ := I.cr r a _ ha hr
  exact wpAny_notIn_of (isIntK G.prog G.w k t) lo hd.mapOf (by rw [hk.isSome]; exact PE.ret (I.toks _) rfl VR.bool h)

-- new cells
theorem Inv.top {m as s} (I : Inv G F m as σ s) : s.heap.get? s.heap.objs.size = none ∧ F.L ≠ s.heap.objs.size := by
  constructor
  · cases e : s.heap.get? s.heap.objs.size with
    | none => rfl
    | some o => exact absurd (Heap.lt_size e) (Nat.lt_irrefl _)
  · intro q
    obtain ⟨o, _, _, hL, _⟩ := I.fr.ns
    exact absurd (Heap.lt_size hL) (q ▸ Nat.lt_irrefl _)
theorem Inv.stpNew {m as s} (I : Inv G F m as σ s) {h' : Heap} (k : ∀ b o, s.heap.get? b = some o → b ≠ F.L → h'.get? b = some o) : Stp F.L s.heap as h' (as ++ [s.heap.objs.size]) :=
  ⟨fun b o e _ n => k b o e n, List.prefix_append _ _, fun a ha n => by
    rcases List.mem_append.mp ha with q | q
    · exact absurd q n
    · rw [List.mem_singleton.mp q]; exact I.top.1, I.ns⟩
theorem Inv.frUp {m as s} (I : Inv G F m as σ s) {h' : Heap} (k : ∀ b o, s.heap.get? b = some o → h'.get? b = some o) : Fr F.h₀ F.L h' m := I.fr.keeps k
theorem VR.last {h : Heap} {as : List Addr} {a : Addr} {n : Nat} (e : as.length = n) : VR h (as ++ [a]) (.ref n) (.ref a) := by
  rw [VR]; exact ⟨_, by rw [← e, List.getElem?_append_right (Nat.le_refl _)]; simp, rfl⟩
theorem PE.new {m as s h'} {t : Nat} {c : Cell} (I : Inv G F m as σ s) (k : ∀ b o, s.heap.get? b = some o → h'.get? b = some o) (hc : CR G h' (as ++ [s.heap.objs.size]) s.heap.objs.size c) (h : Q (.ref σ.length) (σ ++ [c])) :
    PE G F m as s.heap Q (.ref s.heap.objs.size) { s with heap := h', toks := t } := by
  obtain ⟨I', S'⟩ := I.new (s' := { s with heap := h', toks := t }) (c := c) (fun b o e _ => k b o e) (I.frUp k) I.top.1 I.top.2 hc rfl rfl
  exact ⟨_, _, _, I', S', VR.last I.len, h⟩
theorem notMods {n : Nat} (O : F.Ok G n) {m as s} (I : Inv G F m as σ s) : (s.heap.objs.size == sysModules) = false := by
  have h1 := modules_low O.T.nolimit
  have h2 : F.h₀.objs.size ≤ F.L := I.fr.above
  obtain ⟨o, _, _, hL, _⟩ := I.fr.ns
  have h3 := Heap.lt_size hL
  refine beq_eq_false_iff_ne.mpr fun q => ?_
  have q' : s.heap.objs.size = sysModules := q
  exact absurd (Nat.lt_trans (Nat.lt_of_lt_of_le h1 h2) h3) (q' ▸ Nat.lt_irrefl _)
theorem WPE.dict0 {n : Nat} (O : F.Ok G n) {pos : Pos} (h : Q (.ref σ.length) (σ ++ [.dict []])) : WPE G F env ρ σ (.Dict [] [] pos) Q := fun m as s I R =>
  wpAny_Dict_empty (PE.new (t := s.toks) (c := .dict []) I (fun _ _ e => Heap.get?_push_of_some _ e) ⟨notMods O I, [], Heap.DictOf.new _, rfl⟩ h)
theorem OpN.dictCopy {n : Nat} (O : F.Ok G n) {i : Nat} {l : List (Int × PV)} (hi : σ[i]? = some (.dict l)) (hl : l.length ≤ 1000) (h : Q (.ref σ.length) (σ ++ [.dict l])) : OpN G F σ [.ref i] (fun vs => call (.type "dict") vs) Q := fun m as s vs I V => by
  obtain ⟨v, rfl, hv⟩ := V.one
  obtain ⟨a, ha, rfl⟩ := hv.eRef
  obtain ⟨lo, kvs, hd, hk⟩ := I.cr i a _ ha hi
  refine kt_call_dict lo hd (by rw [hk.len, sizeLine_eq]; omega) fun h' hd' hs => ?_
  have up : ∀ b o, s.heap.get? b = some o → h'.get? b = some o := fun b o e => (hs.2 b fun z => by rw [z, I.top.1] at e; cases e).trans (Heap.get?_push_of_some _ e)
  exact PE.new (t := s.toks) (c := .dict l) I up ⟨notMods O I, kvs, hd', hk.stp (I.stpNew fun b o e _ => up b o e)⟩ h
theorem OpN.listOfList {i : Nat} {l : List PV} (hi : σ[i]? = some (.list l)) (hl : l.length ≤ 1000) (h : Q (.ref σ.length) (σ ++ [.list l])) : OpN G F σ [.ref i] (fun vs => call (.type "list") vs) Q := fun m as s vs I V => by
  obtain ⟨v, rfl, hv⟩ := V.one
  obtain ⟨a, ha, rfl⟩ := hv.eRef
  obtain ⟨ws, n, hg, hw⟩ := I.cr i a _ ha hi
  refine call_list_seq a (.inl rfl) hg rfl rfl (fun h' c' up hg' => ?_) (by rw [List.size_toArray, hw.length, sizeLine_eq]; omega)
  exact PE.new (t := s.toks) (c := .list l) I up ⟨ws, c', hg', hw.stp (I.stpNew fun b o e _ => up b o e)⟩ h
theorem OpN.listOfTup {l : List PV} (hl : l.length ≤ 1000) (h : Q (.ref σ.length) (σ ++ [.list l])) : OpN G F σ [.tup l] (fun vs => call (.type "list") vs) Q := fun m as s vs I V => by
  obtain ⟨v, rfl, hv⟩ := V.one
  obtain ⟨a, ws, rfl, na, ⟨o, ho, hc, n, hd⟩, hw⟩ := hv.eTup
  refine call_list_seq a (.inr rfl) ho hc hd (fun h' c' up hg' => ?_) (by rw [List.size_toArray, hw.length, sizeLine_eq]; omega)
  exact PE.new (t := s.toks) (c := .list l) I up ⟨ws, c', hg', hw.stp (I.stpNew fun b o e _ => up b o e)⟩ h
theorem OpN.tupOfList {i : Nat} {l : List PV} (hi : σ[i]? = some (.list l)) (hl : l.length ≤ 1000) (h : Q (.tup l) σ) : OpN G F σ [.ref i] (fun vs => call (.type "tuple") vs) Q := fun m as s vs I V => by
  obtain ⟨v, rfl, hv⟩ := V.one
  obtain ⟨a, ha, rfl⟩ := hv.eRef
  obtain ⟨ws, n, hg, hw⟩ := I.cr i a _ ha hi
  refine call_tuple_list (isL hg) (fun h' up => ?_) (by rw [List.size_toArray, hw.length, sizeLine_eq]; omega)
  have up' : ∀ b o, s.heap.get? b = some o → (h'.push { cls := .type "tuple", data := .seq ws.toArray }).get? b = some o := fun b o e => Heap.get?_push_of_some _ (up b o e)
  obtain ⟨I', S'⟩ := I.grow (s' := { s with heap := h'.push { cls := .type "tuple", data := .seq ws.toArray } }) (fun b o e _ => up' b o e) (I.frUp up') rfl rfl
  refine ⟨.tup l, σ, as, I', S', ?_, h⟩
  rw [VR]
  refine ⟨_, ws, rfl, fun q => ?_, ⟨_, Heap.get?_push_size _ rfl, rfl, _, rfl⟩, hw.stp S'⟩
  obtain ⟨o, e⟩ := I.live q
  exact absurd (Heap.lt_size (up _ _ e)) (Nat.lt_irrefl _)
theorem OpN.tupOfTup {l : List PV} (h : Q (.tup l) σ) : OpN G F σ [.tup l] (fun vs => call (.type "tuple") vs) Q := fun m as s vs I V => by
  obtain ⟨v, rfl, hv⟩ := V.one
  obtain ⟨a, ws, rfl, na, ht, hw⟩ := id hv.eTup
  exact call_tuple_same ht (PE.ret I rfl hv h)
theorem OpN.lenList {i : Nat} {l : List PV} (hi : σ[i]? = some (.list l)) (hl : l.length ≤ 1000) (h : Q (.int l.length) σ) : OpN G F σ [.ref i] (fun vs => call (.builtin "len") vs) Q := fun m as s vs I V => by
  obtain ⟨v, rfl, hv⟩ := V.one
  obtain ⟨a, ha, rfl⟩ := hv.eRef
  obtain ⟨ws, n, hg, hw⟩ := I.cr i a _ ha hi
  refine call_len_list (isL hg) (by rw [List.size_toArray, hw.length]; omega) (PE.ret (I.toks _) rfl ?_ h)
  rw [List.size_toArray, hw.length]; exact VR.int

/-- a built-in function or class by its name -/
theorem WPE.tcall {n : Nat} (O : F.Ok G n) {fn : Str} {fp pos : Pos} {T : String} {e : Expr} {es : List Expr} (hx : env.kindOf fn = some .globalImplicit) (hf : nsIn G.K mainGlobals fn = some none) (hv : bootBuiltins fn = some (.type T)) (hn : fn ≠ "__name__")
    (h : WPL G F env ρ σ pos (e :: es) fun ps σ' => OpN G F σ' ps (fun vs => PySem.call (.type T) vs) Q) (hd : (fn == ("__debug__" : Str)) = false := by decide)
    (he : isStar e = false := by rfl) (hpl : es.any isStar = false := by rfl) :
    WPE G F env ρ σ (.Call (.Name fn fp) (e :: es) [] pos) Q := fun m as s I R =>
  Call_ (name_bin O I R hx hf hv hn (PyProof.Rows.callWith_type1 (wpm (h m as s I R) fun vs s₁ ⟨ps, σ₁, as₁, I₁, S₁, V₁, q₁⟩ => wpm (q₁ m as₁ s₁ vs I₁ V₁) fun _ _ x => x.trans S₁) (star_cons he) (star_any hpl)) hd) call_eq
theorem WPE.bicall {n : Nat} (O : F.Ok G n) {fn : Str} {fp pos : Pos} {id : String} {e : Expr} {es : List Expr} (hx : env.kindOf fn = some .globalImplicit) (hf : nsIn G.K mainGlobals fn = some none) (hv : bootBuiltins fn = some (.builtin id)) (hn : fn ≠ "__name__")
    (h : WPL G F env ρ σ pos (e :: es) fun ps σ' => OpN G F σ' ps (fun vs => PySem.call (.builtin id) vs) Q) (hd : (fn == ("__debug__" : Str)) = false := by decide)
    (he : isStar e = false := by rfl) (hpl : es.any isStar = false := by rfl) :
    WPE G F env ρ σ (.Call (.Name fn fp) (e :: es) [] pos) Q := fun m as s I R =>
  Call_ (name_bin O I R hx hf hv hn (PyProof.Rows.callWith_builtin1 (wpm (h m as s I R) fun vs s₁ ⟨ps, σ₁, as₁, I₁, S₁, V₁, q₁⟩ => wpm (q₁ m as₁ s₁ vs I₁ V₁) fun _ _ x => x.trans S₁) (star_cons he) (star_any hpl)) hd) call_eq
end


theorem allNews_nodup {h₀ h : Heap} {L : Addr} : ((allNews h₀ h L).map (·.1)).Nodup := by
  unfold allNews
  have key : ∀ (l : List Nat) (f : Nat → Option (Addr × Obj)), (∀ b p, f b = some p → p.1 = b) → List.Sublist ((l.filterMap f).map (·.1)) l := by
    intro l f hf
    induction l with
    | nil => exact List.Sublist.refl _
    | cons b l ih =>
      rw [List.filterMap_cons]
      cases e : f b with
      | none => exact ih.cons _
      | some p =>
        rw [List.map_cons, hf b p e]
        exact ih.cons_cons _
  refine (key _ _ fun b p e => ?_).nodup List.nodup_range
  split at e
  · cases e
  · obtain ⟨o, _, rfl⟩ := Option.map_eq_some_iff.mp e; rfl
theorem upd_map {d : Addr} {o o' : Obj} : ∀ {l : List (Addr × Obj)}, (l.map (·.1)).Nodup → (d, o) ∈ l → Upd d o o' l (l.map fun p => if p.1 = d then (d, o') else p)
  | (b, x) :: l, nd, hm => by
    rw [List.map_cons, List.nodup_cons] at nd
    have off : ∀ l : List (Addr × Obj), (∀ p ∈ l, p.1 ≠ d) → l.map (fun p => if p.1 = d then (d, o') else p) = l := fun l h => by
      conv => rhs; rw [← List.map_id l]
      exact List.map_congr_left fun p hp => if_neg (h p hp)
    rcases List.mem_cons.mp hm with e | hm
    · cases e
      have hr : ∀ p ∈ l, p.1 ≠ d := fun p hp q => nd.1 (List.mem_map.mpr ⟨p, hp, q⟩)
      rw [List.map_cons, if_pos rfl, off l hr]
      exact .head hr
    · have hb : b ≠ d := fun q => nd.1 (List.mem_map.mpr ⟨_, hm, q.symm⟩)
      rw [List.map_cons, if_neg hb]
      exact .tail hb (upd_map nd.2 hm)

noncomputable def nput (x : Str) (p : PV) : List (Str × PV) → List (Str × PV)
  | [] => [(x, p)]
  | (y, q) :: l => if y = x then (y, p) :: l else (y, q) :: nput x p l
theorem NRel.put {h as} {x : Str} {p : PV} {v : Value} {hs : Int} {t : Tok} (V : VR h as p v) : ∀ {l : List (Str × PV)} {es : List DictEntry}, NRel h as l es → NRel h as (nput x p l) (putL x hs (.str x t) v es)
  | [], _, H => by cases (show _ = [] from H); exact ⟨hs, t, v, [], rfl, V, rfl⟩
  | (y, q) :: l, _, H => by
    obtain ⟨hs', t', u, r, rfl, hu, hr⟩ := H
    unfold nput putL
    by_cases z : y = x
    · subst z
      have e : (Value.str y t').isStr y = true := by simp [Value.isStr]
      simp only [e, if_true]
      exact ⟨hs', t', v, r, rfl, V, hr⟩
    · have e : (Value.str y t').isStr x = false := by simp [Value.isStr]; exact z
      simp only [e, z, if_false, Bool.false_eq_true]
      exact ⟨hs', t', u, _, rfl, hu, NRel.put V hr⟩
theorem NRel.len {h as} : ∀ {l : List (Str × PV)} {es : List DictEntry}, NRel h as l es → es.length = l.length
  | [], _, H => by cases (show _ = [] from H); rfl
  | (y, q) :: l, _, H => by obtain ⟨hs', t', u, r, rfl, hu, hr⟩ := H; simp [NRel.len hr]

section
variable {G : GX} {F : FX} {env : Env} {ρ : PEnv} {σ : List Cell} {Q : PV → List Cell → Prop}

theorem Inv.allNews {m as s} (I : Inv G F m as σ s) : News F.h₀ F.L s.heap (Mine.allNews F.h₀ s.heap F.L) := allNews_news
/-- what the kit's rules leave of the ledger when one object is written -/
theorem kept_upd {m as s} (I : Inv G F m as σ s) {a : Addr} {o o' : Obj} {h' : Heap} (ha : s.heap.get? a = some o) (fr : Fr F.h₀ F.L h' m) (N : News F.h₀ F.L h' ((Mine.allNews F.h₀ s.heap F.L).map fun p => if p.1 = a then (a, o') else p)) :
    ∀ b x, s.heap.get? b = some x → b ≠ a → b ≠ F.L → h'.get? b = some x := fun b x e n nl => by
  cases q : F.h₀.get? b with
  | some x' =>
    have h1 := I.fr.keep b x' q
    rw [e] at h1; cases h1
    exact fr.keep b x q
  | none => exact (N (b, x) (List.mem_map.mpr ⟨(b, x), allNews_iff.mpr ⟨e, nl, q⟩, if_neg n⟩)).1
theorem kept_new {m as s} (I : Inv G F m as σ s) {l : List (Addr × Obj)} {h' : Heap} (fr : Fr F.h₀ F.L h' m) (N : News F.h₀ F.L h' (l ++ Mine.allNews F.h₀ s.heap F.L)) :
    ∀ b x, s.heap.get? b = some x → b ≠ F.L → h'.get? b = some x := fun b x e nl => by
  cases q : F.h₀.get? b with
  | some x' =>
    have h1 := I.fr.keep b x' q
    rw [e] at h1; cases h1
    exact fr.keep b x q
  | none => exact (N (b, x) (List.mem_append.mpr (.inr (allNews_iff.mpr ⟨e, nl, q⟩)))).1

structure SetCls (K : Frag) (C : Addr) (name : Str) : Prop where
  set : findIn K (.ref C) "__setattr__" = some (some (.builtin "object.__setattr__"))
  over : plainOver K C = true
  taker : takerIn K C name = some none
  dict : hasDictIn K C = true
theorem OpU.setAttr {n : Nat} (O : F.Ok G n) {i d : Nat} {C : Addr} {l : List (Str × PV)} {name : Str} {p : PV} {Qu : List Cell → Prop} (hi : σ[i]? = some (.inst C d)) (hd : σ[d]? = some (.names l)) (hc : SetCls G.K C name) (hl : l.length ≤ 900)
    (h : Qu (σ.set d (.names (nput name p l)))) : OpU G F σ [.ref i, p] (fun vs => match vs with | [o, v] => PySem.setAttr o name v | _ => unsupported "") Qu := fun m as s vs I V => by
  obtain ⟨v, u, rfl, hv, hu⟩ := V.two
  obtain ⟨a, ha, rfl⟩ := hv.eRef
  obtain ⟨dx, es, k, hdx, hge, nr, IA⟩ := instAt I ha hi hd
  have hsome : (getL name es).isSome = true := by
    cases e : l.lookup name with
    | none => rw [nr.find.2 e]; rfl
    | some q => obtain ⟨x, hx, _⟩ := nr.find.1 q e; rw [hx]; rfl
  have hz : (putL name (PyData.keyHash G.w.params name) (.str name (s.toks + 1)) u es).length ≤ 1000 := by
    have h1 := (nr.put (x := name) (hs := PyData.keyHash G.w.params name) (t := s.toks + 1) hu).len
    have h2 : ∀ l : List (Str × PV), (nput name p l).length ≤ l.length + 1 := by
      intro l
      induction l with
      | nil => simp [nput]
      | cons q l ih => obtain ⟨y, q⟩ := q; unfold nput; split <;> simp <;> omega
    have := h2 l
    omega
  have sep := I.sep dx (List.mem_of_getElem? hdx)
  refine set_dict I.fr O.X I.allNews IA rfl hc.set hc.over hc.taker hc.dict hsome rfl (upd_map allNews_nodup (allNews_iff.mpr ⟨hge, sep.1, sep.2⟩)) hz fun h' fr' N' => ?_
  have kp := kept_upd I hge fr' N'
  have hg' : h'.get? dx = some (dictOf (putL name (PyData.keyHash G.w.params name) (.str name (s.toks + 1)) u es) (putN name es k)) :=
    (N' (dx, _) (List.mem_map.mpr ⟨(dx, dictOf es k), allNews_iff.mpr ⟨hge, sep.1, sep.2⟩, if_pos rfl⟩)).1
  have st : Stp F.L s.heap as h' as := ⟨fun b o e n nl => kp b o e (fun z => n (z ▸ List.mem_of_getElem? hdx)) nl, List.prefix_refl _, fun _ x y => absurd x y, I.ns⟩
  obtain ⟨I', S'⟩ := I.set (s' := { s with heap := h', toks := s.toks + 2 }) (c := .names (nput name p l)) hdx kp fr' ⟨_, _, hg', (nr.stp st).put (hu.stp st)⟩ rfl rfl
  exact ⟨_, as, I', S', h⟩

theorem under_frames (A : Around) (args : Args) : (A.under (.builtin "type.__call__" args)).frames = A.frames := rfl
theorem under_handled (A : Around) (c : Code) : (A.under c).handled = A.handled := rfl
theorem under_depth (A : Around) (C : Addr) (vs : List Value) : (A.under (.builtin "type.__call__" ⟨.ref C :: vs, []⟩)).depth = A.depth + 1 := depth_under_kw A C vs []
theorem under_units (A : Around) (C : Addr) (vs : List Value) : (A.under (.builtin "type.__call__" ⟨.ref C :: vs, []⟩)).units ≤ A.units + 6 := by rw [units_under_make]; omega

/-- an own class called: its __init__ runs on a new instance -/
structure NewCls (K : Frag) (C fI : Addr) : Prop where
  makes : makesIn K C = true
  init : findIn K (.ref C) "__init__" = some (some (.ref fI))
  fn : isFn K (.ref fI) = true
theorem OpN.new {n : Nat} (O : F.Ok G n) {C fI : Addr} {ps : List PV} (hc : NewCls G.K C fI)
    (h : Cl G n fI (.ref (σ.length + 1) :: ps) (σ ++ [.names []] ++ [.inst C σ.length]) fun r σ' => r = .none ∧ Q (.ref (σ.length + 1)) σ') : OpN G F σ ps (fun vs => call (.ref C) vs) Q := fun m as s vs I V => by
  refine call_cls I.fr O.X I.allNews hc.makes hc.init hc.fn fun x dx h' fr' N' lo hlt => ?_
  have N2 : News F.h₀ F.L h' ([(x, instObj C dx), (dx, dictOf [] 0)] ++ Mine.allNews F.h₀ s.heap F.L) := N'
  have up := kept_new I fr' N2
  have gx := N' (x, instObj C dx) (.head _)
  have gd := N' (dx, dictOf [] 0) (.tail _ (.head _))
  have fresh : ∀ b, dx ≤ b → b ≠ F.L → F.h₀.get? b = none → s.heap.get? b = none := fun b hb nl h0 => by
    cases e : s.heap.get? b with
    | none => rfl
    | some o => exact absurd (lo (b, o) (allNews_iff.mpr ⟨e, nl, h0⟩)) (Nat.not_lt.mpr hb)
  have fd := fresh dx (Nat.le_refl _) gd.2.1 gd.2.2
  have fx := fresh x (Nat.le_of_lt hlt) gx.2.1 gx.2.2
  have nd : dx ∉ as := fun q => by obtain ⟨o, e⟩ := I.live q; rw [fd] at e; cases e
  have nx : x ∉ as := fun q => by obtain ⟨o, e⟩ := I.live q; rw [fx] at e; cases e
  have st : Stp F.L s.heap as h' (as ++ [dx] ++ [x]) := ⟨fun b o e _ nl => up b o e nl, by rw [List.append_assoc]; exact List.prefix_append _ _, fun a ha na => by
    rcases List.mem_append.mp ha with q | q
    · rcases List.mem_append.mp q with q | q
      · exact absurd q na
      · rw [List.mem_singleton.mp q]; exact fd
    · rw [List.mem_singleton.mp q]; exact fx, I.ns⟩
  have I2 : Inv G F m (as ++ [dx] ++ [x]) (σ ++ [.names []] ++ [.inst C σ.length]) { s with heap := h' } := by
    refine ⟨fr', ?_, by simp [I.len], fun a ha => ?_, fun i a c h1 h2 => ?_, I.gens, I.os⟩
    · rw [List.append_assoc]
      refine List.nodup_append.mpr ⟨I.nd, ?_, fun y hy z hz => ?_⟩
      · show [dx, x].Nodup
        simp only [List.nodup_cons, List.mem_singleton, List.not_mem_nil, not_false_eq_true, and_true, List.nodup_nil]
        exact Nat.ne_of_lt hlt
      · rintro rfl
        rcases List.mem_cons.mp hz with q | q
        · exact nd (q ▸ hy)
        · rw [List.mem_singleton.mp q] at hy; exact nx hy
    · rcases List.mem_append.mp ha with q | q
      · rcases List.mem_append.mp q with q | q
        · exact I.sep a q
        · rw [List.mem_singleton.mp q]; exact gd.2
      · rw [List.mem_singleton.mp q]; exact gx.2
    · by_cases q : i < as.length
      · rw [List.append_assoc, List.getElem?_append_left q] at h1
        rw [List.append_assoc, List.getElem?_append_left (I.len ▸ q)] at h2
        exact (I.cr i a c h1 h2).stp st fun o e => up a o e (I.sep a (List.mem_of_getElem? h1)).1
      · have hi := (List.getElem?_eq_some_iff.mp h1).1
        simp at hi
        rcases (show i = as.length ∨ i = as.length + 1 by omega) with rfl | rfl
        · rw [List.append_assoc, List.getElem?_append_right (Nat.le_refl _)] at h1
          rw [List.append_assoc, I.len, List.getElem?_append_right (Nat.le_refl _)] at h2
          simp at h1 h2
          subst h1 h2
          exact ⟨[], 0, gd.1, rfl⟩
        · rw [List.append_assoc, List.getElem?_append_right (by omega)] at h1
          rw [List.append_assoc, List.getElem?_append_right (by rw [I.len]; omega)] at h2
          rw [I.len] at h1 h2
          simp at h1 h2
          subst h1 h2
          refine ⟨dx, ?_, gx.1⟩
          rw [List.append_assoc, ← I.len, List.getElem?_append_right (Nat.le_refl _)]; simp
  have Vx : VR h' (as ++ [dx] ++ [x]) (.ref (σ.length + 1)) (.ref x) := by
    rw [VR]
    refine ⟨x, ?_, rfl⟩
    rw [List.append_assoc, ← I.len, List.getElem?_append_right (by omega)]; simp
  refine h F O _ ((under_frames _ _).trans O.fr) ((under_handled _ _).trans O.hh) (by rw [under_depth]; omega) (under_units _ _ _) m _ { s with heap := h' } (.ref x :: vs) I2 (.cons Vx (V.stp st)) _ fun v s' H => ?_
  obtain ⟨pv, σ', as', I', S', V', rfl, q⟩ := H
  rw [V'.eNone]
  refine ⟨rfl, ?_⟩
  exact ⟨_, σ', as', I', st.trans S', Vx.stp S', q⟩
end


/-- what is neither a cell of the store nor a dict stays -/
structure StpN (h : Heap) (as : List Addr) (h' : Heap) (as' : List Addr) : Prop where
  keep : ∀ b o, h.get? b = some o → b ∉ as → (∀ es ep, o.data ≠ .dict es ep) → h'.get? b = some o
  pre : as <+: as'
  notMem : ∀ b o, h.get? b = some o → b ∉ as → (∀ es ep, o.data ≠ .dict es ep) → b ∉ as'
theorem StpN.refl {h : Heap} {as : List Addr} : StpN h as h as := ⟨fun _ _ e _ _ => e, List.prefix_refl _, fun _ _ _ n _ => n⟩
theorem StpN.trans {h h' h'' : Heap} {as as' as'' : List Addr} (x : StpN h as h' as') (y : StpN h' as' h'' as'') : StpN h as h'' as'' :=
  ⟨fun b o e n nd => y.keep b o (x.keep b o e n nd) (x.notMem b o e n nd) nd, x.pre.trans y.pre, fun b o e n nd => y.notMem b o (x.keep b o e n nd) (x.notMem b o e n nd) nd⟩
theorem Stp.toN {L : Addr} {h h' : Heap} {as as' : List Addr} (x : Stp L h as h' as') : StpN h as h' as' := ⟨fun b o e n nd => x.keep b o e n (x.off e nd), x.pre, fun _ _ e n _ => x.notMem e n⟩
mutual
theorem VR.stpN {h h' : Heap} {as as' : List Addr} (x : StpN h as h' as') : ∀ {p : PV} {v : Value}, VR h as p v → VR h' as' p v
  | .none, _, H => by rw [VR] at H ⊢; exact H
  | .bool _, _, H => by rw [VR] at H ⊢; exact H
  | .int _, _, H => by rw [VR] at H ⊢; exact H
  | .str _, _, H => by rw [VR] at H ⊢; exact H
  | .ref i, _, H => by
    rw [VR] at H ⊢
    obtain ⟨a, e, r⟩ := H
    exact ⟨a, getElem?_of_prefix x.pre e, r⟩
  | .tup l, _, H => by
    rw [VR] at H ⊢
    obtain ⟨a, vs, rfl, n, t, r⟩ := H
    obtain ⟨o, ho, hc, k, hd⟩ := id t
    exact ⟨a, vs, rfl, x.notMem _ _ ho n (by rw [hd]; intro _ _ q; cases q), ⟨o, x.keep a o ho n (by rw [hd]; intro _ _ q; cases q), hc, k, hd⟩, VRs.stpN x r⟩
  | .lst l, _, H => by
    rw [VR] at H ⊢
    obtain ⟨a, vs, rfl, n, t, r⟩ := H
    obtain ⟨o, ho, hc, k, hd⟩ := id t
    exact ⟨a, vs, rfl, x.notMem _ _ ho n (by rw [hd]; intro _ _ q; cases q), ⟨o, x.keep a o ho n (by rw [hd]; intro _ _ q; cases q), hc, k, hd⟩, VRs.stpN x r⟩
theorem VRs.stpN {h h' : Heap} {as as' : List Addr} (x : StpN h as h' as') : ∀ {l : List PV} {vs : List Value}, VRs h as l vs → VRs h' as' l vs
  | [], _, H => by rw [VRs] at H ⊢; exact H
  | p :: l, _, H => by
    rw [VRs] at H ⊢
    obtain ⟨v, r, rfl, hv, hr⟩ := H
    exact ⟨v, r, rfl, VR.stpN x hv, VRs.stpN x hr⟩
end

/-- only the object at I may have changed -/
noncomputable def Tick (I : Addr) (h h' : Heap) : Prop := ∀ b o, h.get? b = some o → b ≠ I → h'.get? b = some o
noncomputable def Fielded (h : Heap) (I : Addr) : Prop := ∃ o vs, h.get? I = some o ∧ o.data = .fields vs

theorem Fielded.ne {h : Heap} {I a : Addr} {o : Obj} (x : Fielded h I) (e : h.get? a = some o) (n : ∀ vs, o.data ≠ .fields vs) : a ≠ I := by
  rintro rfl
  obtain ⟨o', vs, e', hd⟩ := x
  rw [e] at e'; cases e'
  exact n _ hd
/-- neither a tuple nor a cell of a closure -/
noncomputable def Off (h : Heap) (I : Addr) : Prop := ∃ o, h.get? I = some o ∧ (∀ xs k, o.data ≠ .seq xs k) ∧ ∀ v, o.data ≠ .cell v
theorem Off.ne {h : Heap} {I a : Addr} {o : Obj} (x : Off h I) (e : h.get? a = some o) (n : (∃ xs k, o.data = .seq xs k) ∨ ∃ v, o.data = .cell v) : a ≠ I := by
  rintro rfl
  obtain ⟨o', e', h1, h2⟩ := x
  rw [e] at e'; cases e'
  rcases n with ⟨_, _, n⟩ | ⟨_, n⟩
  · exact h1 _ _ n
  · exact h2 _ n
theorem Fielded.off {h : Heap} {I : Addr} (x : Fielded h I) : Off h I := by
  obtain ⟨o, vs, e, hd⟩ := x
  exact ⟨o, e, by rw [hd]; intro _ _ z; (cases z), by rw [hd]; intro _ z; cases z⟩
theorem Heap.Ns.off {h : Heap} {I : Addr} {m : Str → Option Value} (x : h.Ns I m) : Off h I := by
  obtain ⟨o, es, ep, e, hd, _⟩ := x
  exact ⟨o, e, by rw [hd]; intro _ _ z; (cases z), by rw [hd]; intro _ z; cases z⟩
mutual
theorem VR.tick {I : Addr} {h h' : Heap} {as : List Addr} (f : Off h I) (t : Tick I h h') : ∀ {p : PV} {v : Value}, VR h as p v → VR h' as p v
  | .none, _, H => by rw [VR] at H ⊢; exact H
  | .bool _, _, H => by rw [VR] at H ⊢; exact H
  | .int _, _, H => by rw [VR] at H ⊢; exact H
  | .str _, _, H => by rw [VR] at H ⊢; exact H
  | .ref i, _, H => by rw [VR] at H ⊢; exact H
  | .tup l, _, H => by
    rw [VR] at H ⊢
    obtain ⟨a, vs, rfl, n, ht, r⟩ := H
    refine ⟨a, vs, rfl, n, tup_stp ht fun o e => t a o e ?_, VRs.tick f t r⟩
    obtain ⟨o', e', _, k, hd⟩ := ht
    exact f.ne e' (.inl ⟨_, _, hd⟩)
  | .lst l, _, H => by
    rw [VR] at H ⊢
    obtain ⟨a, vs, rfl, n, ht, r⟩ := H
    refine ⟨a, vs, rfl, n, lst_stp ht fun o e => t a o e ?_, VRs.tick f t r⟩
    obtain ⟨o', e', _, k, hd⟩ := ht
    exact f.ne e' (.inl ⟨_, _, hd⟩)
theorem VRs.tick {I : Addr} {h h' : Heap} {as : List Addr} (f : Off h I) (t : Tick I h h') : ∀ {l : List PV} {vs : List Value}, VRs h as l vs → VRs h' as l vs
  | [], _, H => by rw [VRs] at H ⊢; exact H
  | p :: l, _, H => by
    rw [VRs] at H ⊢
    obtain ⟨v, r, rfl, hv, hr⟩ := H
    exact ⟨v, r, rfl, VR.tick f t hv, VRs.tick f t hr⟩
end
theorem KRel.tick {α : Type} {I : Addr} {h h' : Heap} {as : List Addr} (f : Off h I) (t : Tick I h h') : ∀ {l : List (α × PV)} {vs : List (α × Value)}, KRel h as l vs → KRel h' as l vs
  | [], _, H => H
  | p :: l, _, H => by obtain ⟨v, r, rfl, hv, hr⟩ := H; exact ⟨v, r, rfl, hv.tick f t, hr.tick f t⟩
theorem NRel.tick {I : Addr} {h h' : Heap} {as : List Addr} (f : Off h I) (t : Tick I h h') : ∀ {l : List (Str × PV)} {es : List DictEntry}, NRel h as l es → NRel h' as l es
  | [], _, H => H
  | p :: l, _, H => by obtain ⟨hs, t', v, r, rfl, hv, hr⟩ := H; exact ⟨hs, t', v, r, rfl, hv.tick f t, hr.tick f t⟩
theorem TRel.tick {I : Addr} {h h' : Heap} {as : List Addr} (f : Off h I) (t : Tick I h h') : ∀ {l : List (List Int × PV)} {vs : List (List Int × Addr × Value)}, TRel h as l vs → TRel h' as l vs
  | [], _, H => H
  | p :: l, _, H => by obtain ⟨k, v, r, rfl, n, hv, hr⟩ := H; exact ⟨k, v, r, rfl, n, hv.tick f t, hr.tick f t⟩
theorem CR.tick {G : GX} {I : Addr} {h h' : Heap} {as : List Addr} (f : Off h I) (t : Tick I h h') {a : Addr} (n : a ≠ I) : ∀ {c : Cell}, CR G h as a c → CR G h' as a c
  | .list l, ⟨vs, k, e, q⟩ => ⟨vs, k, t _ _ e n, q.tick f t⟩
  | .dict l, ⟨lo, kvs, d, q⟩ => ⟨lo, kvs, dictOf_stp d fun o e => t _ _ e n, q.tick f t⟩
  | .tdict l, ⟨lo, kvs, ⟨o, es, ep, ho, r1, r2, r3, r4, r5⟩, q⟩ => ⟨lo, kvs, ⟨o, es, ep, t _ _ ho n, r1, r2, r3, fun y m => by
      obtain ⟨ob, items, k, hb, r⟩ := r4 y m
      exact ⟨ob, items, k, t _ _ hb (f.ne hb (.inl ⟨_, _, r.2.1⟩)), r⟩, r5⟩, q.tick f t⟩
  | .names l, ⟨es, k, e, q⟩ => ⟨es, k, t _ _ e n, q.tick f t⟩
  | .inst C d, ⟨dx, e, g⟩ => ⟨dx, e, t _ _ g n⟩

section
variable {G : GX} {F : FX} {env : Env} {ρ : PEnv} {σ : List Cell} {m : Str → Option Value} {as : List Addr} {s : Shared}
theorem ER.tick {L I : Addr} {h h' : Heap} (R : ER L m env h as ρ) (f : Fielded h I) (t : Tick I h h') : ER L m env h' as ρ :=
  ⟨R.kind, R.glob, R.bins, fun x pv e => let ⟨v, a, b⟩ := R.names x pv e; ⟨v, match a with
    | .own hl hk hm => .own hl hk hm
    | .comp mc hl hk ⟨o, es, ep, ho, hd, r⟩ n hm => .comp mc hl hk ⟨o, es, ep, t _ _ ho (f.ne ho (by rw [hd]; intro _ z; cases z)), hd, r⟩ n hm
    | .cell c o hk hc ho hd n => .cell c o hk hc (t _ _ ho (f.ne ho (by rw [hd]; intro _ z; cases z))) hd n
    | .free c o hk hc ho hd n => .free c o hk hc (t _ _ ho (f.ne ho (by rw [hd]; intro _ z; cases z))) hd n, b.tick f.off t⟩⟩
theorem Inv.tick {I : Addr} (V : Inv G F m as σ s) {s' : Shared} (f : Off s.heap I) (t : Tick I s.heap s'.heap) (n : I ∉ as) (nL : I ≠ F.L) (n0 : F.h₀.get? I = none) (hg : s'.gens = s.gens) (ho : s'.os = s.os) : Inv G F m as σ s' :=
  ⟨⟨let ⟨o, es, ep, e, r⟩ := V.fr.ns; ⟨o, es, ep, t _ _ e (Ne.symm nL), r⟩, fun b o e => t _ _ (V.fr.keep b o e) (fun z => (by rw [z, n0] at e; cases e)), V.fr.above⟩, V.nd, V.len, V.sep,
    fun i a c h1 h2 => (V.cr i a c h1 h2).tick f t fun z => n (z ▸ List.mem_of_getElem? h1), hg.trans V.gens, ho.trans V.os⟩
theorem Stp.tick {L I : Addr} {h h' h'' : Heap} {as as' : List Addr} (S : Stp L h as h' as') (t : Tick I h' h'') (hI : h.get? I = none) : Stp L h as h'' as' :=
  ⟨fun b o e n nl => t _ _ (S.keep b o e n nl) (fun z => (by rw [z, hI] at e; cases e)), S.pre, S.fresh, S.ns⟩

/-- an iterator that hands out ps, as long as the store is as it wants it -/
structure Cur (G : GX) (F : FX) (I : Addr) (ps : List PV) (C : Nat → Heap → List Addr → Prop) (ok : List Cell → Prop) : Prop where
  fields : ∀ k h as, C k h as → Fielded h I
  nL : I ≠ F.L
  n0 : F.h₀.get? I = none
  frame : ∀ k h as h' as', C k h as → StpN h as h' as' → I ∉ as → C k h' as'
  item : ∀ k m as σ s p (Q : Option Value → Shared → Prop) (E : Value → Shared → Prop), Inv G F m as σ s → ok σ → C k s.heap as → I ∉ as → ps[k]? = some p →
    (∀ v s', Inv G F m as σ s' → Tick I s.heap s'.heap → C (k + 1) s'.heap as → VR s'.heap as p v → Q (some v) s') → wpAny (model G.prog G.w) F.A (pyNext (.ref I)) Q E s
  done : ∀ k m as σ s (Q : Option Value → Shared → Prop) (E : Value → Shared → Prop), Inv G F m as σ s → ok σ → C k s.heap as → I ∉ as → ps[k]? = none →
    (∀ s', Inv G F m as σ s' → Tick I s.heap s'.heap → Q none s') → wpAny (model G.prog G.w) F.A (pyNext (.ref I)) Q E s
  self : ∀ k s (as : List Addr) (Q : Value → Shared → Prop) (E : Value → Shared → Prop), C k s.heap as → Q (.ref I) s → wpAny (model G.prog G.w) F.A (pyIter (.ref I)) Q E s
  quiet : ∀ k s (as : List Addr) target v (Q : Unit → Shared → Prop) (E : Value → Shared → Prop), C k s.heap as → Q () s → wpAny (model G.prog G.w) F.A (letOwnedTupleGo target (.ref I) v) Q E s

theorem quiet_of {M : Model} {A : Around} {I : Addr} {o : Obj} {T : String} {vs : Array Value} {s : Shared} {target : Expr} {v : Value} {Q : Unit → Shared → Prop} {E : Value → Shared → Prop} (e : s.heap.get? I = some o) (hc : o.cls = .type T) (hd : o.data = .fields vs)
    (hT : (["enumerate", "zip", "dict_itemiterator", "dict_reverseitemiterator", "odict_iterator", "itertools.zip_longest", "itertools.pairwise"] : List String).contains T = false) (q : Q () s) : wpAny M A (letOwnedTupleGo target (.ref I) v) Q E s := by
  unfold letOwnedTupleGo
  split
  · cases v with
    | ref a =>
      refine wpAny_bind (wpAny_load e ?_)
      rw [hc, hd]
      dsimp only
      rw [hT]
      exact wpAny_pure q
    | _ => exact wpAny_pure q
  · cases v with
    | ref a =>
      refine wpAny_bind (wpAny_load e ?_)
      rw [hc, hd]
      dsimp only
      rw [hT]
      exact wpAny_pure q
    | _ => exact wpAny_pure q
  · exact wpAny_pure q
end

section
variable {G : GX} {F : FX} {env : Env} {ρ : PEnv} {σ : List Cell} {m : Str → Option Value} {as : List Addr} {s : Shared}

theorem VRs.noneAt {h as} {l : List PV} {vs : List Value} (H : VRs h as l vs) {k : Nat} (e : l[k]? = none) : vs[k]? = none := by
  rw [List.getElem?_eq_none_iff] at e ⊢; rw [H.length]; exact e
theorem tickBut {I : Addr} {h h' : Heap} (hs : Heap.SameBut I h h') : Tick I h h' := fun b o e n => (hs.2 b n).trans e
theorem tickExt {I : Addr} {h h' : Heap} (hs : Heap.ExtBut I h h') : Tick I h h' := fun b o e n => hs b o n e

theorem cur_list {n : Nat} (O : F.Ok G n) {I : Addr} {i : Nat} {l : List PV} (nL : I ≠ F.L) (n0 : F.h₀.get? I = none) :
    Cur G F I l (fun k h as => ∃ a, as[i]? = some a ∧ h.IsListIter I a k) (fun σ => σ[i]? = some (.list l)) where
  fields := fun k h as ⟨a, _, o, e, _, d⟩ => ⟨o, _, e, d⟩
  nL := nL
  n0 := n0
  frame := fun k h as h' as' ⟨a, ha, o, e, c, d⟩ st nI => ⟨a, getElem?_of_prefix st.pre ha, o, st.keep _ _ e nI (by rw [d]; intro _ _ q; cases q), c, d⟩
  item := fun k m as σ s p Q E V ok ⟨a, ha, it⟩ nI hp hQ => by
    obtain ⟨vs, c, hg, hv⟩ := V.cr i a _ ha ok
    obtain ⟨x, hx, Vx⟩ := hv.get hp
    have f : Fielded s.heap I := let ⟨o, e, _, d⟩ := it; ⟨o, _, e, d⟩
    refine wpAny_pyNext_list_item it (isL hg) (by simpa using hx) fun h' it' hs => ?_
    have t := tickBut hs
    exact hQ x _ (V.tick (s' := { s with heap := h' }) f.off t nI nL n0 rfl rfl) t ⟨a, ha, it'⟩ (Vx.tick f.off t)
  done := fun k m as σ s Q E V ok ⟨a, ha, it⟩ nI hp hQ => by
    obtain ⟨vs, c, hg, hv⟩ := V.cr i a _ ha ok
    have f : Fielded s.heap I := let ⟨o, e, _, d⟩ := it; ⟨o, _, e, d⟩
    refine wpAny_pyNext_list_end O.hh it (isL hg) (by simpa using hv.noneAt hp) fun h' hs => ?_
    have t := tickExt hs
    exact hQ _ (V.tick (s' := { s with heap := h' }) f.off t nI nL n0 rfl rfl) t
  self := fun k s as Q E ⟨a, ha, it⟩ q => wpAny_pyIter_listiter it q
  quiet := fun k s as target v Q E ⟨a, ha, o, e, c, d⟩ q => quiet_of e c d (by decide) q

theorem cur_tup {n : Nat} (O : F.Ok G n) {I : Addr} {l : List PV} (nL : I ≠ F.L) (n0 : F.h₀.get? I = none) :
    Cur G F I l (fun k h as => ∃ t vs, h.IsTupleIter I t k ∧ t ∉ as ∧ IsTup h t (List.toArray vs) ∧ VRs h as l vs) (fun σ => True) where
  fields := fun k h as ⟨a, _, ⟨o, e, _, d⟩, _⟩ => ⟨o, _, e, d⟩
  nL := nL
  n0 := n0
  frame := fun k h as h' as' ⟨t, vs, ⟨o, e, c, d⟩, nt, ht, hv⟩ st nI => by
    obtain ⟨o', e', c', k', d'⟩ := id ht
    exact ⟨t, vs, ⟨o, st.keep _ _ e nI (by rw [d]; intro _ _ q; cases q), c, d⟩, st.notMem _ _ e' nt (by rw [d']; intro _ _ q; cases q), ⟨o', st.keep _ _ e' nt (by rw [d']; intro _ _ q; cases q), c', k', d'⟩, hv.stpN st⟩
  item := fun k m as σ s p Q E V ok ⟨t, vs, it, nt, ht, hv⟩ nI hp hQ => by
    obtain ⟨x, hx, Vx⟩ := hv.get hp
    have f : Fielded s.heap I := let ⟨o, e, _, d⟩ := it; ⟨o, _, e, d⟩
    refine wpAny_pyNext_tuple_item it ht (by simpa using hx) fun h' it' hs => ?_
    have tk := tickBut hs
    obtain ⟨o', e', c', k', d'⟩ := id ht
    exact hQ x _ (V.tick (s' := { s with heap := h' }) f.off tk nI nL n0 rfl rfl) tk ⟨t, vs, it', nt, tup_stp ht fun o z => tk _ _ z (f.ne e' (by rw [d']; intro _ q; cases q)), hv.tick f.off tk⟩ (Vx.tick f.off tk)
  done := fun k m as σ s Q E V ok ⟨t, vs, it, nt, ht, hv⟩ nI hp hQ => by
    have f : Fielded s.heap I := let ⟨o, e, _, d⟩ := it; ⟨o, _, e, d⟩
    refine wpAny_pyNext_tuple_end O.hh it ht (by simpa using hv.noneAt hp) fun h' hs => ?_
    have tk := tickExt hs
    exact hQ _ (V.tick (s' := { s with heap := h' }) f.off tk nI nL n0 rfl rfl) tk
  self := fun k s as Q E ⟨t, vs, it, _⟩ q => wpAny_pyIter_tupleiter it q
  quiet := fun k s as target v Q E ⟨t, vs, ⟨o, e, c, d⟩, _⟩ q => quiet_of e c d (by decide) q

noncomputable def upTo (n : Nat) : List PV := (List.range n).map fun (k : Nat) => PV.int (k : Int)
theorem upTo_at {n k : Nat} {p : PV} (e : (upTo n)[k]? = some p) : k < n ∧ p = .int k := by
  unfold upTo at e
  rw [List.getElem?_map] at e
  obtain ⟨j, hj, rfl⟩ := Option.map_eq_some_iff.mp e
  obtain ⟨h1, h2⟩ := List.getElem?_eq_some_iff.mp hj
  rw [List.length_range] at h1
  rw [List.getElem_range] at h2
  subst h2
  exact ⟨h1, rfl⟩
theorem cur_range {n : Nat} (O : F.Ok G n) {I : Addr} {c : Nat} (nL : I ≠ F.L) (n0 : F.h₀.get? I = none) :
    Cur G F I (upTo c) (fun k h as => k ≤ c ∧ IsRangeIter h I k (c - k) 1) (fun σ => True) where
  fields := fun k h as ⟨_, e⟩ => ⟨_, _, e, rfl⟩
  nL := nL
  n0 := n0
  frame := fun k h as h' as' ⟨hk, e⟩ st nI => ⟨hk, st.keep _ _ e nI (by intro _ _ q; cases q)⟩
  item := fun k m as σ s p Q E V ok ⟨hk, it⟩ nI hp hQ => by
    obtain ⟨hlt, rfl⟩ := upTo_at hp
    have f : Fielded s.heap I := ⟨_, _, it, rfl⟩
    refine wpAny_pyNext_range_item it (by omega) fun h' it' hs => ?_
    have tk := tickBut hs
    refine hQ _ _ (V.tick (s' := { s with heap := h', toks := s.toks + 1 }) f.off tk nI nL n0 rfl rfl) tk ⟨by omega, ?_⟩ VR.int
    show IsRangeIter h' I ((k + 1 : Nat) : Int) ((c : Int) - ((k + 1 : Nat) : Int)) 1
    rw [show ((c : Int) - ((k + 1 : Nat) : Int)) = c - k - 1 by omega, show ((k + 1 : Nat) : Int) = (k : Int) + 1 by omega]
    exact it'
  done := fun k m as σ s Q E V ok ⟨hk, it⟩ nI hp hQ => by
    have hge : c ≤ k := by
      unfold upTo at hp
      rw [List.getElem?_map] at hp
      have := Option.map_eq_none_iff.mp hp
      rw [List.getElem?_eq_none_iff, List.length_range] at this
      exact this
    have f : Fielded s.heap I := ⟨_, _, it, rfl⟩
    refine wpAny_pyNext_range_end O.hh it (by omega) fun h' hs => ?_
    have tk := tickExt hs
    exact hQ _ (V.tick (s' := { s with heap := h' }) f.off tk nI nL n0 rfl rfl) tk
  self := fun k s as Q E ⟨_, it⟩ q => wpAny_pyIter_rangeiter it q
  quiet := fun k s as target v Q E ⟨_, it⟩ q => quiet_of it rfl rfl (by decide) q

/-- what a loop runs over: the items, and what the store must go on saying -/
noncomputable def WPI (G : GX) (F : FX) (env : Env) (ρ : PEnv) (σ : List Cell) (e : Expr) (K : List PV → (List Cell → Prop) → List Cell → Prop) : Prop :=
  ∀ m as s, Inv G F m as σ s → ER F.L m env s.heap as ρ → wpAny (model G.prog G.w) F.A (eval e env) (fun x s₁ => wpAny (model G.prog G.w) F.A (pyIter x) (fun it s₂ =>
    ∃ I σ' as' ps C ok, it = .ref I ∧ Inv G F m as' σ' s₂ ∧ Stp F.L s.heap as s₂.heap as' ∧ Cur G F I ps C ok ∧ C 0 s₂.heap as' ∧ I ∉ as' ∧ s.heap.get? I = none ∧ ok σ' ∧ K ps ok σ') NoE s₁) NoE s

theorem Inv.n0 (V : Inv G F m as σ s) {I : Addr} (e : s.heap.get? I = none) : F.h₀.get? I = none := by
  cases q : F.h₀.get? I with
  | none => rfl
  | some o => have := V.fr.keep I o q; rw [e] at this; cases this
theorem Inv.topOut (V : Inv G F m as σ s) : s.heap.objs.size ∉ as := fun q => Nat.lt_irrefl _ (V.low q)
theorem stp_none {L : Addr} {h h' : Heap} {as as' : List Addr} (S : Stp L h as h' as') {I : Addr} (e : h'.get? I = none) (n : I ≠ L) (na : I ∉ as) : h.get? I = none := by
  cases q : h.get? I with
  | none => rfl
  | some o => have := S.keep I o q na n; rw [e] at this; cases this

/-- over a list of the store -/
theorem WPI.list {n : Nat} (O : F.Ok G n) {e : Expr} {K : List PV → (List Cell → Prop) → List Cell → Prop} (h : WPE G F env ρ σ e fun p σ₁ => ∃ i l, p = .ref i ∧ σ₁[i]? = some (.list l) ∧ K l (fun σ => σ[i]? = some (.list l)) σ₁) : WPI G F env ρ σ e K := fun m as s V R =>
  wpm (h m as s V R) fun v s₁ ⟨p, σ₁, as₁, I₁, S₁, V₁, i, l, hp, hi, hK⟩ => by
    subst hp
    obtain ⟨a, ha, rfl⟩ := V₁.eRef
    obtain ⟨vs, c, hg, hv⟩ := I₁.cr i a _ ha hi
    refine wpAny_pyIter_list (isL hg) ?_
    obtain ⟨I₂, S₂⟩ := I₁.push { cls := .type "list_iterator", data := .fields #[.ref a, .int 0 0] } s₁.toks
    have out := I₁.topOut
    exact ⟨_, σ₁, as₁, l, _, _, rfl, I₂, S₁.trans S₂, cur_list O (Ne.symm I₁.top.2) (I₁.n0 I₁.top.1), ⟨a, ha, _, Heap.get?_push_size _ rfl, rfl, rfl⟩, out, stp_none S₁ I₁.top.1 (Ne.symm I₁.top.2) fun q => out (S₁.mem q), hi, hK⟩
/-- over a tuple -/
theorem WPI.tup {n : Nat} (O : F.Ok G n) {e : Expr} {K : List PV → (List Cell → Prop) → List Cell → Prop} (h : WPE G F env ρ σ e fun p σ₁ => ∃ l, p = .tup l ∧ K l (fun _ => True) σ₁) : WPI G F env ρ σ e K := fun m as s V R =>
  wpm (h m as s V R) fun v s₁ ⟨p, σ₁, as₁, I₁, S₁, V₁, l, hp, hK⟩ => by
    subst hp
    obtain ⟨t, vs, rfl, nt, ht, hv⟩ := V₁.eTup
    refine wpAny_pyIter_tuple ht ?_
    obtain ⟨I₂, S₂⟩ := I₁.push { cls := .type "tuple_iterator", data := .fields #[.ref t, .int 0 0] } s₁.toks
    have out := I₁.topOut
    exact ⟨_, σ₁, as₁, l, _, _, rfl, I₂, S₁.trans S₂, cur_tup O (Ne.symm I₁.top.2) (I₁.n0 I₁.top.1), ⟨t, vs, ⟨_, Heap.get?_push_size _ rfl, rfl, rfl⟩, nt, tup_stp ht fun o e => Heap.get?_push_of_some _ e, hv.stp S₂⟩, out,
      stp_none S₁ I₁.top.1 (Ne.symm I₁.top.2) (fun q => out (S₁.mem q)), trivial, hK⟩
/-- over range(k) -/
theorem WPI.range {n : Nat} (O : F.Ok G n) {fp pos : Pos} {e : Expr} {K : List PV → (List Cell → Prop) → List Cell → Prop} (hx : env.kindOf "range" = some .globalImplicit) (hf : nsIn G.K mainGlobals "range" = some none)
    (h : WPE G F env ρ σ e fun p σ₁ => ∃ c : Nat, p = .int c ∧ c < 1000 ∧ K (upTo c) (fun _ => True) σ₁)
    (he : isStar e = false := by rfl) :
    WPI G F env ρ σ (.Call (.Name "range" fp) [e] [] pos) K := fun m as s V R => by
  refine Call_ (name_bin O V R hx hf (boot_range) (by decide) (PyProof.Rows.callWith_type1 ?_ (star_cons he) (star_any rfl))) call_eq
  refine spliced_more (wpm (h m as s V R) fun v s₁ ⟨p, σ₁, as₁, I₁, S₁, V₁, c, hp, hc', hK⟩ => ?_) (star_cons he)
  subst hp
  obtain ⟨t, rfl⟩ := V₁.eInt
  refine spliced_none ?_
  refine range1_rows I₁.fr I₁.allNews fun h' tk t₁ u₁ v₁ hr fr' N' up => ?_
  obtain ⟨I₂, S₂⟩ := I₁.grow (s' := { s₁ with heap := h', toks := tk }) (fun b o e _ => up b o e) fr' rfl rfl
  refine wpAny_pyIter_range (s := { s₁ with heap := h', toks := tk }) hr (small_one (by decide) (by decide) (by omega) (by omega)) ?_
  obtain ⟨I₃, S₃⟩ := I₂.push { cls := .type "range_iterator", data := .fields #[rawInt 0, rawInt (Builtin.Range.rangeSize 0 c 1), rawInt 1] } tk
  have out := I₂.topOut
  have S := S₁.trans S₂
  refine ⟨_, σ₁, as₁, upTo c, _, _, rfl, I₃, S.trans S₃, cur_range (c := c) O (Ne.symm I₂.top.2) (I₂.n0 I₂.top.1), ⟨Nat.zero_le _, ?_⟩, out, stp_none S I₂.top.1 (Ne.symm I₂.top.2) (fun q => out (S.mem q)), trivial, hK⟩
  have e1 : Builtin.Range.rangeSize 0 c 1 = (c : Int) := by
    unfold Builtin.Range.rangeSize
    simp only [show (1 : Int) > 0 by decide, if_true]
    split <;> omega
  show (h'.push _).get? h'.objs.size = _
  rw [Heap.get?_push_size _ rfl, e1]
  simp
end



/-- where the names of an environment lie: the frame, or the namespace of a comprehension -/
noncomputable def EO (F : FX) (env : Env) (h : Heap) (as : List Addr) : Prop :=
  env.locals = F.L ∨ (env.locals ≠ F.L ∧ F.h₀.get? env.locals = none ∧ (∃ mc, h.Ns env.locals mc) ∧ env.locals ∉ as)
/-- a value is given to a target: of the frame, or of a comprehension -/
noncomputable def WPA (G : GX) (F : FX) (env : Env) (ρ : PEnv) (σ : List Cell) (tg : Expr) (p : PV) (N : PEnv → Prop) : Prop :=
  ∀ m as s v, Inv G F m as σ s → ER F.L m env s.heap as ρ → EO F env s.heap as → VR s.heap as p v → wpAny (model G.prog G.w) F.A (assign tg env v) (fun _ s' => ∃ m' ρ', Inv G F m' as σ s' ∧ Tick env.locals s.heap s'.heap ∧ ER F.L m' env s'.heap as ρ' ∧ EO F env s'.heap as ∧ (env.locals = F.L ∨ m' = m) ∧ N ρ') NoE s
noncomputable def WPAs (G : GX) (F : FX) (env : Env) (σ : List Cell) : PEnv → List Expr → List PV → (PEnv → Prop) → Prop
  | ρ, [], [], N => N ρ
  | ρ, t :: ts, p :: ps, N => WPA G F env ρ σ t p fun ρ' => WPAs G F env σ ρ' ts ps N
  | _, _, _, _ => False

section
variable {G : GX} {F : FX} {env : Env} {ρ : PEnv} {σ : List Cell}

theorem Tick.refl {I : Addr} {h : Heap} : Tick I h h := fun _ _ e _ => e
theorem Tick.trans {I : Addr} {h h' h'' : Heap} (a : Tick I h h') (b : Tick I h' h'') : Tick I h h'' := fun x o e n => b x o (a x o e n) n
theorem Tick.stp {m as s} {h' : Heap} (V : Inv G F m as σ s) (t : Tick F.L s.heap h') : Stp F.L s.heap as h' as := ⟨fun b o e _ n => t b o e n, List.prefix_refl _, fun _ x y => absurd x y, V.ns⟩
theorem EO.off {m as s} (V : Inv G F m as σ s) (e : EO F env s.heap as) : Off s.heap env.locals := by
  rcases e with e | ⟨_, _, ⟨mc, e⟩, _⟩
  · rw [e]; obtain ⟨o, es, ep, a, b⟩ := V.ns; exact ⟨o, a, by rw [b]; intro _ _ z; (cases z), by rw [b]; intro _ z; cases z⟩
  · exact Heap.Ns.off e
theorem EO.stp {L : Addr} {h h' : Heap} {as as' : List Addr} (S : Stp F.L h as h' as') (e : EO F env h as) : EO F env h' as' := by
  rcases e with e | ⟨e1, e2, ⟨mc, o, es, ep, ho, r⟩, e4⟩
  · exact .inl e
  · exact .inr ⟨e1, e2, ⟨mc, o, es, ep, S.keep _ _ ho e4 e1, r⟩, S.notMem ho e4⟩
theorem EO.tick {I : Addr} {h h' : Heap} {as : List Addr} (t : Tick I h h') (f : Fielded h I) (e : EO F env h as) : EO F env h' as := by
  rcases e with e | ⟨e1, e2, ⟨mc, o, es, ep, ho, hd, r⟩, e4⟩
  · exact .inl e
  · exact .inr ⟨e1, e2, ⟨mc, o, es, ep, t _ _ ho (f.ne ho (by rw [hd]; intro _ z; cases z)), hd, r⟩, e4⟩
theorem Ns.uniq {h : Heap} {a : Addr} {m m' : Str → Option Value} (x : h.Ns a m) (y : h.Ns a m') : m = m' := by
  obtain ⟨o, es, ep, ho, hd, _, hm⟩ := x
  obtain ⟨o', es', ep', ho', hd', _, hm'⟩ := y
  rw [ho] at ho'; cases ho'
  rw [hd] at hd'; cases hd'
  funext n; rw [← hm n, ← hm' n]

theorem ER.own {L : Addr} {m : Str → Option Value} {h h' : Heap} {as as₀ : List Addr} {x : Str} {p : PV} {v : Value} (R : ER L m env h as ρ) (hl : env.locals = L) (hx : env.kindOf x = some .local) (S' : Stp L h as h' as) (V : VR h' as p v) :
    ER L (fun y => if y = x then some v else m y) env h' as ((x, p) :: ρ) := by
  refine ⟨R.kind, R.glob, R.bins, fun y pv e => ?_⟩
  rw [List.lookup_cons] at e
  by_cases q : y = x
  · subst q; simp at e; subst e; exact ⟨v, .own hl hx (by simp), V⟩
  · rw [show (y == x) = false from by simpa using q] at e
    obtain ⟨u, Nu, Vu⟩ := R.names y pv e
    refine ⟨u, ?_, Vu.stp S'⟩
    cases Nu with
    | own hl hk hm => exact .own hl hk (by rw [if_neg q]; exact hm)
    | comp mc hl' => exact absurd hl hl'
    | cell a o hk hc ho hd na => exact (NameIs.cell (m := fun y => if y = x then some v else m y) a o hk hc ho hd na).stp S'
    | free a o hk hc ho hd na => exact (NameIs.free (m := fun y => if y = x then some v else m y) a o hk hc ho hd na).stp S'

theorem WPA.name {n : Nat} (O : F.Ok G n) {x : Str} {px : Pos} {p : PV} {N : PEnv → Prop} (hx : F.env.kindOf x = some .local) (h : N ((x, p) :: ρ)) : WPA G F F.env ρ σ (.Name x px) p N := fun m as s v I R e V => by
  refine PyProof.Rows.assign_Name (wpAny_storeName_local hx (by rw [O.el]; exact I.fr.ns) (fun h' hn hs => ?_) (notClass O))
  rw [O.el] at hn hs
  obtain ⟨I', S'⟩ := I.grow (s' := { s with heap := h', toks := s.toks + 1 }) (m' := fun y => if y = x then some v else m y) (fun b o e nl => (hs.2 b nl).trans e) (I.fr.set hn hs) rfl rfl
  exact ⟨_, _, I', (by rw [O.el]; exact fun b o e nl => (hs.2 b nl).trans e), R.own (as₀ := as) O.el hx S' (V.stp S'), .inl O.el, .inl O.el, h⟩

/-- a name of a comprehension -/
theorem WPA.cname {x : Str} {px : Pos} {p : PV} {N : PEnv → Prop} (hl : env.locals ≠ F.L) (hx : env.kindOf x = some .local) (h : N ((x, p) :: ρ)) : WPA G F env ρ σ (.Name x px) p N := fun m as s v I R e V => by
  rcases e with e | ⟨e1, e2, ⟨mc, e3⟩, e4⟩
  · exact absurd e hl
  refine PyProof.Rows.assign_Name (wpAny_storeName_local hx e3 (fun h' hn hs => ?_) (by rw [R.kind]; rfl))
  have t : Tick env.locals s.heap h' := fun b o e nl => (hs.2 b nl).trans e
  have of := Heap.Ns.off e3
  have I' : Inv G F m as σ { s with heap := h', toks := s.toks + 1 } := I.tick of t e4 hl e2 rfl rfl
  refine ⟨m, (x, p) :: ρ, I', t, ⟨R.kind, R.glob, R.bins, fun y pv e => ?_⟩, .inr ⟨hl, e2, ⟨_, hn⟩, e4⟩, .inr rfl, h⟩
  rw [List.lookup_cons] at e
  by_cases q : y = x
  · subst q; simp at e; subst e
    exact ⟨v, .comp _ hl hx hn e4 (by simp), V.tick of t⟩
  · rw [show (y == x) = false from by simpa using q] at e
    obtain ⟨u, Nu, Vu⟩ := R.names y pv e
    refine ⟨u, ?_, Vu.tick of t⟩
    cases Nu with
    | own hl' hk hm => exact absurd hl' hl
    | comp mc' hl' hk hmc n hm =>
      have := Ns.uniq e3 hmc
      subst this
      exact .comp _ hl hk hn e4 (by rw [if_neg q]; exact hm)
    | cell a o hk hc ho hd na => exact .cell a o hk hc (t _ _ ho (of.ne ho (.inr ⟨_, hd⟩))) hd na
    | free a o hk hc ho hd na => exact .free a o hk hc (t _ _ ho (of.ne ho (.inr ⟨_, hd⟩))) hd na

theorem WPAs.go : ∀ (ts : List Expr) (ps : List PV) (ρ : PEnv) {N : PEnv → Prop} {m as s} {vs : List Value}, WPAs G F env σ ρ ts ps N → Inv G F m as σ s → ER F.L m env s.heap as ρ → EO F env s.heap as → VRs s.heap as ps vs →
    wpAny (model G.prog G.w) F.A (assignInOrder (ts.map fun t => assign t env) vs) (fun _ s' => ∃ m' ρ', Inv G F m' as σ s' ∧ Tick env.locals s.heap s'.heap ∧ ER F.L m' env s'.heap as ρ' ∧ EO F env s'.heap as ∧ (env.locals = F.L ∨ m' = m) ∧ N ρ') NoE s
  | [], [], ρ, N, m, as, s, vs, h, I, R, e, V => by
    rw [VRs] at V; subst V
    exact assignInOrder_nil ⟨m, ρ, I, Tick.refl, R, e, .inr rfl, h⟩
  | t :: ts, p :: ps, ρ, N, m, as, s, vs, h, I, R, e, V => by
    rw [VRs] at V; obtain ⟨v, r, rfl, hv, hr⟩ := V
    refine assignInOrder_cons (wpm (h m as s v I R e hv) fun _ s₁ H => ?_)
    obtain ⟨m₁, ρ₁, I₁, T₁, R₁, E₁, e₁, h₁⟩ := H
    refine wpm (WPAs.go ts ps ρ₁ h₁ I₁ R₁ E₁ (hr.tick (e.off I) T₁)) fun _ s₂ H => ?_
    obtain ⟨m₂, ρ₂, I₂, T₂, R₂, E₂, e₂, h₂⟩ := H
    refine ⟨m₂, ρ₂, I₂, T₁.trans T₂, R₂, E₂, ?_, h₂⟩
    rcases e₁ with e | e
    · exact .inl e
    · rcases e₂ with e' | e'
      · exact .inl e'
      · exact .inr (e'.trans e)
  | [], _ :: _, _, _, _, _, _, _, h, _, _, _, _ => h.elim
  | _ :: _, [], _, _, _, _, _, _, h, _, _, _, _ => h.elim

theorem ER.up {L : Addr} {m : Str → Option Value} {h h' : Heap} {as : List Addr} (R : ER L m env h as ρ) (k : ∀ b o, h.get? b = some o → h'.get? b = some o) (hL : ∃ o es ep, h.get? L = some o ∧ o.data = .dict es ep) : ER L m env h' as ρ :=
  R.stp ⟨fun b o e _ _ => k b o e, List.prefix_refl _, fun _ x y => absurd x y, hL⟩
theorem extTop {m as s} {h' : Heap} (I : Inv G F m as σ s) (he : Heap.ExtBut s.heap.objs.size s.heap h') : ∀ b o, s.heap.get? b = some o → h'.get? b = some o := fun b o e => he b o (Nat.ne_of_lt (Heap.lt_size e)) e
theorem after_ext {m as s} {h' : Heap} (I : Inv G F m as σ s) (he : Heap.ExtBut s.heap.objs.size s.heap h') : Inv G F m as σ { s with heap := h' } ∧ Stp F.L s.heap as h' as :=
  I.grow (s' := { s with heap := h' }) (fun b o e _ => extTop I he b o e) (I.frUp (extTop I he)) rfl rfl
theorem WPA.tup {ts : List Expr} {k : Nat} {pos : Pos} {l : List PV} {N : PEnv → Prop} (hh : F.A.handled = none) (h : WPAs G F env σ ρ ts l N)
    (hea : (assignEach ts env).map (·.2) = ts.map (fun t => assign t env) := by rfl) (hlen : (assignEach ts env).length = l.length := by rfl) (hst : (assignEach ts env).findIdx? (·.1) = none := by rfl) : WPA G F env ρ σ (.Tuple ts k pos) (.tup l) N := fun m as s v I R e V => by
  obtain ⟨a, vs, rfl, na, ht, hv⟩ := V.eTup
  refine wpAny_assign_Tuple hh ht (by rw [hlen, List.size_toArray, hv.length]) hst fun h' he => ?_
  obtain ⟨I', S'⟩ := after_ext I he
  rw [hea]
  refine wpm (WPAs.go ts l ρ h I' (R.stp S') (e.stp (L := F.L) S') (hv.stp S')) fun _ s₂ H => ?_
  obtain ⟨m₂, ρ₂, I₂, T₂, R₂, E₂, e₂, h₂⟩ := H
  exact ⟨m₂, ρ₂, I₂, fun b o x n => T₂ b o (extTop I he b o x) n, R₂, E₂, e₂, h₂⟩
theorem WPA.lst {ts : List Expr} {k : Nat} {pos : Pos} {i : Nat} {l : List PV} {N : PEnv → Prop} (hh : F.A.handled = none) (hi : σ[i]? = some (.list l)) (h : WPAs G F env σ ρ ts l N)
    (hea : (assignEach ts env).map (·.2) = ts.map (fun t => assign t env) := by rfl) (hlen : (assignEach ts env).length = l.length := by rfl) (hst : (assignEach ts env).findIdx? (·.1) = none := by rfl) : WPA G F env ρ σ (.Tuple ts k pos) (.ref i) N := fun m as s v I R e V => by
  obtain ⟨a, ha, rfl⟩ := V.eRef
  obtain ⟨vs, c, hg, hv⟩ := I.cr i a _ ha hi
  rw [show assign (.Tuple ts k pos) env (.ref a) = (do standAt pos; unpack (.ref a) (assignEach ts env)) from rfl]
  refine wpAny_bind (wpAny_standAt ?_)
  unfold unpack
  rw [show (assignEach ts env).length = (List.toArray vs).size by rw [hlen, List.size_toArray, hv.length], hst]
  refine wpAny_bind (wpAny_holding (kun_itemsOf hh (isL hg) fun h' he => ?_))
  obtain ⟨I', S'⟩ := after_ext I he
  rw [hea]
  refine wpm (WPAs.go ts l ρ h I' (R.stp S') (e.stp (L := F.L) S') (hv.stp S')) fun _ s₂ H => ?_
  obtain ⟨m₂, ρ₂, I₂, T₂, R₂, E₂, e₂, h₂⟩ := H
  exact ⟨m₂, ρ₂, I₂, fun b o x n => T₂ b o (extTop I he b o x) n, R₂, E₂, e₂, h₂⟩
end

section
variable {G : GX} {F : FX} {env : Env} {ρ : PEnv} {σ : List Cell} {N : PEnv → List Cell → Prop} {Rt : PV → List Cell → Prop}

theorem WPX.unpack {n : Nat} (O : F.Ok G n) {elts : List Expr} {k : Nat} {tpos pos : Pos} {value : Expr} (h : WPE G F F.env ρ σ value fun p σ₁ => WPA G F F.env ρ σ₁ (.Tuple elts k tpos) p fun ρ' => N ρ' σ₁)
    (hw : swappedStores [.Tuple elts k tpos] value F.env = pure none := by rfl) (hs : swapsWithSole [.Tuple elts k tpos] value (Pos.line pos) F.env = pure false := by rfl) : WPX G F ρ σ (.Assign [.Tuple elts k tpos] value pos) N Rt := fun m as s I R =>
  Assign_Tuple (wpm (h m as s I R) fun v s₁ ⟨p, σ₁, as₁, I₁, S₁, V₁, q₁⟩ => wpm (q₁ m as₁ s₁ v I₁ (R.stp S₁) (.inl O.el) V₁) fun _ s₂ ⟨m₂, ρ₂, I₂, T₂, R₂, E₂, e₂, h₂⟩ =>
    ⟨m₂, σ₁, as₁, I₂, S₁.trans (Tick.stp I₁ (O.el ▸ T₂)), ρ₂, R₂, h₂⟩) hs hw
theorem VRs.reverse {h as} : ∀ {l : List PV} {vs : List Value}, VRs h as l vs → VRs h as l.reverse vs.reverse
  | [], _, H => by rw [VRs] at H; subst H; exact .nil
  | p :: l, _, H => by
    rw [VRs] at H; obtain ⟨v, r, rfl, hv, hr⟩ := H
    rw [List.reverse_cons, List.reverse_cons]
    exact (VRs.reverse hr).append (.cons hv .nil)
theorem WPX.swap {n : Nat} (O : F.Ok G n) {elts : List Expr} {k : Nat} {tpos pos : Pos} {value : Expr} (names : List Str) (h : WPE G F F.env ρ σ value fun p σ₁ => ∃ l, p = .tup l ∧ l.length = names.length ∧ N ((names.reverse.zip l.reverse).reverse ++ ρ) σ₁)
    (hw : swappedStores [.Tuple elts k tpos] value F.env = pure (some names)) (hx : ∀ x ∈ names, F.env.kindOf x = some .local) (hs : swapsWithSole [.Tuple elts k tpos] value (Pos.line pos) F.env = pure false := by rfl) : WPX G F ρ σ (.Assign [.Tuple elts k tpos] value pos) N Rt := fun m as s I R =>
  Assign_Tuple_swapped (wpm (h m as s I R) fun v s₁ ⟨p, σ₁, as₁, I₁, S₁, V₁, l, hp, hl, hN⟩ => by
    subst hp
    obtain ⟨a, vs, rfl, na, ht, hv⟩ := V₁.eTup
    have hn : names.length = (List.toArray vs).size := by rw [List.size_toArray, hv.length, hl]
    rw [hn]
    refine wpAny_unpackItems_tuple O.hh ht fun h' he => ?_
    obtain ⟨I₂, S₂⟩ := after_ext I₁ he
    refine stores_ O names.reverse l.reverse ρ (by simp [hl]) I₂ ((R.stp S₁).stp S₂) (by simpa using (hv.stp S₂).reverse) (fun x hx' => hx x (List.mem_reverse.mp hx')) fun m' s' I' S' R' => ?_
    exact ⟨m', σ₁, as₁, I', (S₁.trans S₂).trans S', _, R', hN⟩) hs hw

theorem WPX.setItem {o i value : Expr} {pos' pos : Pos} (h : WPE G F F.env ρ σ value fun p σ₁ => WPE G F F.env ρ σ₁ o fun q σ₂ => WPE G F F.env ρ σ₂ i fun k σ₃ => OpU G F σ₃ [q, k, p] (fun vs => match vs with | [o, k, v] => PySem.setItem o k v | _ => unsupported "") (N ρ))
    (hs : swapsWith value (some (.Subscript o i pos')) (Pos.line pos) F.env = pure false := by rfl) : WPX G F ρ σ (.Assign [.Subscript o i pos'] value pos) N Rt := fun m as s I R =>
  wpAny_Assign_Subscript (wpm (h m as s I R) fun v s₁ ⟨p, σ₁, as₁, I₁, S₁, V₁, q₁⟩ => wpm (q₁ m as₁ s₁ I₁ (R.stp S₁)) fun u s₂ ⟨p₂, σ₂, as₂, I₂, S₂, V₂, q₂⟩ => wpm (q₂ m as₂ s₂ I₂ (R.stp (S₁.trans S₂))) fun x s₃ ⟨p₃, σ₃, as₃, I₃, S₃, V₃, q₃⟩ =>
    wpm (q₃ m as₃ s₃ [u, x, v] I₃ (.cons (V₂.stp S₃) (.cons V₃ (.cons ((V₁.stp S₂).stp S₃) .nil)))) fun _ s₄ ⟨σ₄, as₄, I₄, S₄, q₄⟩ => ⟨m, σ₄, as₄, I₄, ((S₁.trans S₂).trans S₃).trans S₄, ρ, R.stp (((S₁.trans S₂).trans S₃).trans S₄), q₄⟩) hs
theorem WPX.setAttr {o value : Expr} {name : Str} {pos' pos : Pos} (h : WPE G F F.env ρ σ value fun p σ₁ => WPE G F F.env ρ σ₁ o fun q σ₂ => OpU G F σ₂ [q, p] (fun vs => match vs with | [o, v] => PySem.setAttr o name v | _ => unsupported "") (N ρ))
    (hs : swapsWith value (some (.Attribute o name pos')) (Pos.line pos) F.env = pure false := by rfl) : WPX G F ρ σ (.Assign [.Attribute o name pos'] value pos) N Rt := fun m as s I R =>
  plainObj_wpAny_Assign_Attribute (wpm (h m as s I R) fun v s₁ ⟨p, σ₁, as₁, I₁, S₁, V₁, q₁⟩ => wpm (q₁ m as₁ s₁ I₁ (R.stp S₁)) fun u s₂ ⟨p₂, σ₂, as₂, I₂, S₂, V₂, q₂⟩ =>
    wpm (q₂ m as₂ s₂ [u, v] I₂ (.cons V₂ (.cons (V₁.stp S₂) .nil))) fun _ s₄ ⟨σ₄, as₄, I₄, S₄, q₄⟩ => ⟨m, σ₄, as₄, I₄, (S₁.trans S₂).trans S₄, ρ, R.stp ((S₁.trans S₂).trans S₄), q₄⟩) hs

-- and, or
noncomputable def WPBA (G : GX) (F : FX) (env : Env) (ρ : PEnv) (σ : List Cell) (op : BoolOp) (es : List Expr) (pos : Pos) (Q : Bool → List Cell → Prop) : Prop :=
  ∀ whole m as s, Inv G F m as σ s → ER F.L m env s.heap as ρ → wpAny (model G.prog G.w) F.A (isTrue (.BoolOp op es pos) env whole) (PB G F m as s.heap Q) NoE s
theorem WPBA.andNil {pos : Pos} {Q : Bool → List Cell → Prop} (h : Q true σ) : WPBA G F env ρ σ .And [] pos Q := fun _ m as s I R => isTrue_and_nil ⟨σ, as, I, I.stay, h⟩
theorem WPBA.orNil {pos : Pos} {Q : Bool → List Cell → Prop} (h : Q false σ) : WPBA G F env ρ σ .Or [] pos Q := fun _ m as s I R => isTrue_or_nil ⟨σ, as, I, I.stay, h⟩
theorem WPBA.and {x : Expr} {rest : List Expr} {pos : Pos} {Q : Bool → List Cell → Prop} (h : WPB G F env ρ σ x fun c σ₁ => (c = true → WPBA G F env ρ σ₁ .And rest pos Q) ∧ (c = false → Q false σ₁)) : WPBA G F env ρ σ .And (x :: rest) pos Q := fun whole m as s I R =>
  isTrue_and (wpm (h m as s I R) fun c s₁ ⟨σ₁, as₁, I₁, S₁, q₁⟩ => by
    cases c with
    | true => exact wpm (q₁.1 rfl whole m as₁ s₁ I₁ (R.stp S₁)) fun _ _ x => x.trans S₁
    | false => exact ⟨σ₁, as₁, I₁, S₁, q₁.2 rfl⟩)
theorem WPBA.or {x : Expr} {rest : List Expr} {pos : Pos} {Q : Bool → List Cell → Prop} (h : WPB G F env ρ σ x fun c σ₁ => (c = false → WPBA G F env ρ σ₁ .Or rest pos Q) ∧ (c = true → Q true σ₁)) : WPBA G F env ρ σ .Or (x :: rest) pos Q := fun whole m as s I R =>
  isTrue_or (wpm (h m as s I R) fun c s₁ ⟨σ₁, as₁, I₁, S₁, q₁⟩ => by
    cases c with
    | false => exact wpm (q₁.1 rfl whole m as₁ s₁ I₁ (R.stp S₁)) fun _ _ x => x.trans S₁
    | true => exact ⟨σ₁, as₁, I₁, S₁, q₁.2 rfl⟩)
theorem WPB.bools {op : BoolOp} {es : List Expr} {pos : Pos} {Q : Bool → List Cell → Prop} (h : WPBA G F env ρ σ op es pos Q) : WPB G F env ρ σ (.BoolOp op es pos) Q := fun m as s I R => h _ m as s I R

-- loops
structure ForI (G : GX) (F : FX) (len : Nat) (C : Nat → Heap → List Addr → Prop) (J : Nat → PEnv → List Cell → Prop) (a : Addr) (h₀ : Heap) (as₀ : List Addr) (k : Nat) (m' : Str → Option Value) (as' : List Addr) (ρ' : PEnv) (σ' : List Cell) (s' : Shared) : Prop where
  le : k ≤ len
  I : Inv G F m' as' σ' s'
  S : Stp F.L h₀ as₀ s'.heap as'
  R : ER F.L m' F.env s'.heap as' ρ'
  c : C k s'.heap as'
  na : a ∉ as'
  j : J k ρ' σ'
theorem WPX.for {n : Nat} (O : F.Ok G n) {target iter : Expr} {body : List Stmt} {pos : Pos}
    (h : WPI G F F.env ρ σ iter fun ps ok σ₁ => ∃ J : Nat → PEnv → List Cell → Prop, J 0 ρ σ₁ ∧ (∀ k ρ' σ', J k ρ' σ' → ok σ') ∧
      (∀ k p ρ' σ', ps[k]? = some p → J k ρ' σ' → WPA G F F.env ρ' σ' target p fun ρ'' => WPS G F ρ'' σ' body (J (k + 1)) Rt) ∧ (∀ ρ' σ', J ps.length ρ' σ' → N ρ' σ'))
    (hs : ∀ x, foldedSetIterable iter F.env x = pure x := by intro _; rfl) : WPX G F ρ σ (.For target iter body [] pos) N Rt := fun m as s I R => by
  refine wpAny_For (wpm (h m as s I R) fun x s₁ H => wpm H fun it s₂ H => ?_) hs
  obtain ⟨a, σ₁, as₁, ps, C, ok, rfl, I₁, S₁, cu, c0, na, n0, ok0, J, j0, jok, jt, jn⟩ := H
  have hmono : ∀ {k : Nat} {h : Heap} {as : List Addr}, C k h as → ∃ o, h.get? a = some o := fun c => let ⟨o, _, e, _⟩ := cu.fields _ _ _ c; ⟨o, e⟩
  refine codeAny_forLoop_any (fun q s' => ∃ k m' as' ρ' σ', q = ps.length - k ∧ ForI G F ps.length C J a s.heap as k m' as' ρ' σ' s') ?_ ps.length
    ⟨0, m, as₁, ρ, σ₁, rfl, ⟨Nat.zero_le _, I₁, S₁, R.stp S₁, c0, na, j0⟩⟩
  rintro q s' ⟨k, m', as', ρ', σ', rfl, ⟨hk, I', S', R', c', na', j'⟩⟩
  cases e : ps[k]? with
  | none =>
    have hk' : k = ps.length := by rw [List.getElem?_eq_none_iff] at e; omega
    subst hk'
    refine cu.done _ m' as' σ' s' _ _ I' (jok _ _ _ j') c' na' e fun s'' I'' t => ?_
    have f := cu.fields _ _ _ c'
    refine wpAny_execs_nil ⟨m', σ', as', I'', S'.tick t n0, ρ', R'.tick f t, jn _ _ j'⟩
  | some p =>
    refine cu.item k m' as' σ' s' p _ _ I' (jok _ _ _ j') c' na' e fun v s₃ I₃ t c₃ V₃ => ?_
    have f := cu.fields _ _ _ c'
    have R₃ := R'.tick f t
    have S₃ := S'.tick t n0
    refine cu.quiet _ _ _ _ _ _ _ c₃ ?_
    refine wpm (jt k p ρ' σ' e j' m' as' s₃ v I₃ R₃ (.inl O.el) V₃) fun _ s₄ H => ?_
    obtain ⟨m₄, ρ₄, I₄, T₄, R₄, _, _, h₄⟩ := H
    have st₄ := Tick.stp I₃ (O.el ▸ T₄)
    have c₄ := cu.frame _ _ _ _ _ c₃ st₄.toN na'
    refine wpm (h₄ m₄ as' s₄ I₄ R₄) fun fl s₅ H => ?_
    obtain ⟨m₅, σ₅, as₅, I₅, S₅, q₅⟩ := H
    have hk' : k < ps.length := (List.getElem?_eq_some_iff.mp e).1
    cases fl with
    | next =>
      obtain ⟨ρ₅, R₅, q₅⟩ := q₅
      obtain ⟨o, ho⟩ := hmono c₄
      exact ⟨ps.length - (k + 1), by omega, k + 1, m₅, as₅, ρ₅, σ₅, rfl, ⟨hk', I₅, (S₃.trans st₄).trans S₅, R₅, cu.frame _ _ _ _ _ c₄ S₅.toN na', S₅.notMem ho na', q₅⟩⟩
    | ret v => exact ⟨m₅, σ₅, as₅, I₅, (S₃.trans st₄).trans S₅, q₅⟩
    | brk => exact q₅.elim
    | cont => exact q₅.elim

theorem WPX.while {test : Expr} {body : List Stmt} {pos : Pos} (J : Nat → PEnv → List Cell → Prop) (n : Nat) (h0 : J n ρ σ)
    (h : ∀ k ρ' σ', J k ρ' σ' → WPB G F F.env ρ' σ' test fun c σ₁ => (c = true → WPS G F ρ' σ₁ body (fun ρ₂ σ₂ => ∃ j, j < k ∧ J j ρ₂ σ₂) Rt) ∧ (c = false → N ρ' σ₁)) : WPX G F ρ σ (.While test body [] pos) N Rt := fun m as s I R => by
  refine wpAny_While (codeAny_whileLoop (fun q s' => ∃ m' as' ρ' σ', Inv G F m' as' σ' s' ∧ Stp F.L s.heap as s'.heap as' ∧ ER F.L m' F.env s'.heap as' ρ' ∧ J q ρ' σ') ?_ n ⟨m, as, ρ, σ, I, I.stay, R, h0⟩)
  rintro q s' ⟨m', as', ρ', σ', I', S', R', j'⟩
  refine wpm (h q ρ' σ' j' m' as' s' I' R') fun c s₂ H => ?_
  obtain ⟨σ₂, as₂, I₂, S₂, q₂⟩ := H
  cases c with
  | true =>
    refine wpm (q₂.1 rfl m' as₂ s₂ I₂ (R'.stp S₂)) fun fl s₅ H => ?_
    obtain ⟨m₅, σ₅, as₅, I₅, S₅, q₅⟩ := H
    cases fl with
    | next =>
      obtain ⟨ρ₅, R₅, j, hj, q₅⟩ := q₅
      exact ⟨j, hj, m₅, as₅, ρ₅, σ₅, I₅, (S'.trans S₂).trans S₅, R₅, q₅⟩
    | ret v => exact ⟨m₅, σ₅, as₅, I₅, (S'.trans S₂).trans S₅, q₅⟩
    | brk => exact q₅.elim
    | cont => exact q₅.elim
  | false => exact wpAny_execs_nil ⟨m', σ₂, as₂, I₂, S'.trans S₂, ρ', R'.stp S₂, q₂.2 rfl⟩
end


theorem Tick.toN {C : Addr} {h h' : Heap} {as : List Addr} {m : Str → Option Value} (t : Tick C h h') (hn : h.Ns C m) : StpN h as h' as :=
  ⟨fun b o e n nd => t b o e fun q => by
    obtain ⟨o', es, ep, e', hd, _⟩ := hn
    rw [q, e'] at e; cases e; exact nd _ _ hd, List.prefix_refl _, fun _ _ _ n _ => n⟩
theorem StpN.tick {I : Addr} {h h' h'' : Heap} {as as' : List Addr} (S : StpN h as h' as') (t : Tick I h' h'') (hI : h.get? I = none) : StpN h as h'' as' :=
  ⟨fun b o e n nd => t _ _ (S.keep b o e n nd) (fun z => (by rw [z, hI] at e; cases e)), S.pre, S.notMem⟩

section
variable {G : GX} {F : FX} {env : Env} {ρ ρ' : PEnv} {σ : List Cell}

theorem ER.sub {L : Addr} {m : Str → Option Value} {h : Heap} {as : List Addr} (R : ER L m env h as ρ') (s : ∀ x p, ρ.lookup x = some p → ρ'.lookup x = some p) : ER L m env h as ρ := ⟨R.kind, R.glob, R.bins, fun x p e => R.names x p (s x p e)⟩
theorem ER.stpN {L : Addr} {m : Str → Option Value} {h h' : Heap} {as as' : List Addr} (R : ER L m env h as ρ) (st : StpN h as h' as') (k : ∀ x p, ρ.lookup x = some p → env.kindOf x ≠ some .local) : ER L m env h' as' ρ :=
  ⟨R.kind, R.glob, R.bins, fun x p e => by
    obtain ⟨v, N, V⟩ := R.names x p e
    refine ⟨v, ?_, V.stpN st⟩
    cases N with
    | own _ hk _ => exact absurd hk (k x p e)
    | comp mc _ hk => exact absurd hk (k x p e)
    | cell a o hk hc ho hd na => exact .cell a o hk hc (st.keep _ _ ho na (by rw [hd]; intro _ _ q; cases q)) hd (st.notMem _ _ ho na (by rw [hd]; intro _ _ q; cases q))
    | free a o hk hc ho hd na => exact .free a o hk hc (st.keep _ _ ho na (by rw [hd]; intro _ _ q; cases q)) hd (st.notMem _ _ ho na (by rw [hd]; intro _ _ q; cases q))⟩

/-- the tests of a comprehension -/
noncomputable def WPT (G : GX) (F : FX) (env : Env) (ρ : PEnv) : List Expr → List Cell → (Bool → List Cell → Prop) → Prop
  | [], σ, Q => Q true σ
  | c :: cs, σ, Q => WPB G F env ρ σ c fun b σ₁ => (b = true → WPT G F env ρ cs σ₁ Q) ∧ (b = false → Q false σ₁)
theorem WPT.off {env : Env} {M : Model} {A : Around} {E : Value → Shared → Prop} : ∀ (cs : List Expr) {s : Shared} {Q : Bool → Shared → Prop}, Q false s →
    wpAny M A (forIn cs false fun c r => if r = true then do let ok ← isTrue c env (eval c env); pure (ForInStep.yield ok) else pure (ForInStep.yield r)) Q E s
  | [], s, Q, h => by rw [List.forIn_nil]; exact wpAny_pure h
  | c :: cs, s, Q, h => by
    rw [List.forIn_cons]
    simp only [Bool.false_eq_true, if_false]
    exact wpAny_bind (wpAny_pure (WPT.off cs h))
theorem WPT.go : ∀ (cs : List Expr) {σ : List Cell} {Q : Bool → List Cell → Prop}, WPT G F env ρ cs σ Q → ∀ m as s, Inv G F m as σ s → ER F.L m env s.heap as ρ →
    wpAny (model G.prog G.w) F.A (forIn cs true fun c r => if r = true then do let ok ← isTrue c env (eval c env); pure (ForInStep.yield ok) else pure (ForInStep.yield r)) (PB G F m as s.heap Q) NoE s
  | [], σ, Q, h, m, as, s, I, R => by rw [List.forIn_nil]; exact wpAny_pure ⟨σ, as, I, I.stay, h⟩
  | c :: cs, σ, Q, h, m, as, s, I, R => by
    rw [List.forIn_cons]
    simp only [if_true]
    refine wpAny_bind (wpAny_bind (wpm (h m as s I R) fun b s₁ ⟨σ₁, as₁, I₁, S₁, q₁⟩ => wpAny_pure ?_))
    cases b with
    | true => exact wpm (WPT.go cs (q₁.1 rfl) m as₁ s₁ I₁ (R.stp S₁)) fun _ _ x => x.trans S₁
    | false => exact WPT.off cs ⟨σ₁, as₁, I₁, S₁, q₁.2 rfl⟩

/-- one turn of a comprehension, what it puts out left open -/
noncomputable def turnForm (target iter : Expr) (ifs : List Expr) (it : Value) (env : Env) (emit : Sem Fin → Sem Fin) (again' : Sem Fin) : Sem Fin := (do
      standAt iter.pos
      match ← pyNext it with
      | none => pure (.done .next)
      | some v =>
        letOwnedTupleGo target it v
        assign target env v
        let mut ok := true
        for c in ifs do
          if ok then ok ← isTrue c env (eval c env)
        if ok then emit again' else again')
theorem turn_list (elt target iter : Expr) (ifs : List Expr) (scope : Scope) (pos : Pos) (it acc : Value) (env : Env) :
    compTurn (.ListComp elt [⟨target, iter, ifs, 0⟩] scope pos) 0 it acc env = turnForm target iter ifs it env (fun k => do (do let _ ← call (.builtin "list.append") [acc, ← eval elt env]); k) (again (.compLoop (.ListComp elt [⟨target, iter, ifs, 0⟩] scope pos) 0 it acc env)) := by rfl
theorem turn_list1 (elt target iter target' iter' : Expr) (ifs ifs' : List Expr) (scope : Scope) (pos : Pos) (it acc : Value) (env : Env) :
    compTurn (.ListComp elt [⟨target, iter, ifs, 0⟩, ⟨target', iter', ifs', 0⟩] scope pos) 1 it acc env = turnForm target' iter' ifs' it env (fun k => do (do let _ ← call (.builtin "list.append") [acc, ← eval elt env]); k) (again (.compLoop (.ListComp elt [⟨target, iter, ifs, 0⟩, ⟨target', iter', ifs', 0⟩] scope pos) 1 it acc env)) := by rfl
theorem turn_list0 (elt target iter target' iter' : Expr) (ifs ifs' : List Expr) (scope : Scope) (pos : Pos) (it acc : Value) (env : Env) :
    compTurn (.ListComp elt [⟨target, iter, ifs, 0⟩, ⟨target', iter', ifs', 0⟩] scope pos) 0 it acc env = turnForm target iter ifs it env (fun k => do
        let x ← eval iter' env
        standAt iter'.pos
        let x ← foldedSetIterable iter' env x
        let _ ← runOwn (.compStart (.ListComp elt [⟨target, iter, ifs, 0⟩, ⟨target', iter', ifs', 0⟩] scope pos) 1 (← holding [x] (pyIter x)) acc env) env
        k) (again (.compLoop (.ListComp elt [⟨target, iter, ifs, 0⟩, ⟨target', iter', ifs', 0⟩] scope pos) 0 it acc env)) := by rfl

/-- what is put out -/
noncomputable def EM (G : GX) (F : FX) (env : Env) (i : Nat) (D : Addr) (ρ ρ₀ : PEnv) (σ : List Cell) (emit : Sem Fin → Sem Fin) (K : List Cell → Prop) : Prop :=
  ∀ m as s h₀ as₀, as[i]? = some D → Inv G F m as σ s → ER F.L m env s.heap as ρ → EO F env s.heap as → Stp F.L h₀ as₀ s.heap as → h₀.get? env.locals = none →
    ∀ (k : Sem Fin) (Q : Fin → Shared → Prop) (E : Value → Shared → Prop), (∀ s' σ' as', Inv G F m as' σ' s' → Stp F.L h₀ as₀ s'.heap as' → StpN s.heap as s'.heap as' → EO F env s'.heap as' → ER F.L m env s'.heap as' ρ₀ → K σ' → wpAny (model G.prog G.w) F.A k Q E s') →
      wpAny (model G.prog G.w) F.A (emit k) Q E s

structure LoopI (G : GX) (F : FX) (env : Env) (ρ : PEnv) (len : Nat) (C : Nat → Heap → List Addr → Prop) (J : Nat → List Cell → Prop) (a : Addr) (i : Nat) (D : Addr) (m : Str → Option Value) (h₀ : Heap) (as₀ : List Addr) (h₁ : Heap) (as₁ : List Addr) (k : Nat) (as' : List Addr) (σ' : List Cell) (s' : Shared) : Prop where
  le : k ≤ len
  I : Inv G F m as' σ' s'
  S : Stp F.L h₀ as₀ s'.heap as'
  eo : EO F env s'.heap as'
  R : ER F.L m env s'.heap as' ρ
  c : C k s'.heap as'
  na : a ∉ as'
  j : J k σ'
  hD : as'[i]? = some D
  sn : StpN h₁ as₁ s'.heap as'
theorem comp_loop {e : Expr} {d i : Nat} {a D : Addr} {acc : Value} {target iter : Expr} {ifs : List Expr} {emit : Sem Fin → Sem Fin} {ps : List PV} {C : Nat → Heap → List Addr → Prop} {ok : List Cell → Prop} (cu : Cur G F a ps C ok)
    (hl : env.locals ≠ F.L)
    (hturn : compTurn e d (.ref a) acc env = turnForm target iter ifs (.ref a) env emit (again (.compLoop e d (.ref a) acc env)))
    (J : Nat → List Cell → Prop) (jok : ∀ k σ', J k σ' → ok σ')
    (jt : ∀ k p σ', ps[k]? = some p → J k σ' → WPA G F env ρ σ' target p fun ρ' => (∀ x q, ρ.lookup x = some q → ρ'.lookup x = some q) ∧ WPT G F env ρ' ifs σ' fun b σ₂ => (b = true → EM G F env i D ρ' ρ σ₂ emit (J (k + 1))) ∧ (b = false → J (k + 1) σ₂))
    {m as s h₀ as₀} (I : Inv G F m as σ s) (R : ER F.L m env s.heap as ρ) (eo : EO F env s.heap as) (S : Stp F.L h₀ as₀ s.heap as) (nC : h₀.get? env.locals = none) (na : h₀.get? a = none) (c0 : C 0 s.heap as) (ha : a ∉ as) (j0 : J 0 σ) (hD : as[i]? = some D) {h₁ as₁} (sn : StpN h₁ as₁ s.heap as) (na1 : h₁.get? a = none)
    (hq : (Code.compLoop e d (.ref a) acc env).quiet = true := by rfl) (hden : (model G.prog G.w).den (.compLoop e d (.ref a) acc env) = (compTurn e d (.ref a) acc env).onRaise (fun x => do noteFrame x env; theTreesLotGoes x) := by rfl)
    (hund : F.A.under (.compLoop e d (.ref a) acc env) = F.A := by rfl) :
    codeAny (model G.prog G.w) F.A (.compLoop e d (.ref a) acc env) (fun r s' => r = .ok .next ∧ ∃ σ' as', Inv G F m as' σ' s' ∧ Stp F.L h₀ as₀ s'.heap as' ∧ EO F env s'.heap as' ∧ ER F.L m env s'.heap as' ρ ∧ J ps.length σ' ∧ as'[i]? = some D ∧ StpN h₁ as₁ s'.heap as') s := by
  refine codeAny_loop hq (fun q s' => ∃ k as' σ', q = ps.length - k ∧ LoopI G F env ρ ps.length C J a i D m h₀ as₀ h₁ as₁ k as' σ' s') ?_ ps.length
    ⟨0, as, σ, rfl, ⟨Nat.zero_le _, I, S, eo, R, c0, ha, j0, hD, sn⟩⟩
  rintro q s' ⟨k, as', σ', rfl, ⟨hk, I', S', eo', R', c', na', j', hD', sn'⟩⟩
  rw [hden, hund]
  refine wpAny_noted ?_
  rw [hturn]
  unfold turnForm
  refine wpAny_bind (wpAny_standAt (wpAny_bind ?_))
  cases e : ps[k]? with
  | none =>
    have hk' : k = ps.length := by rw [List.getElem?_eq_none_iff] at e; omega
    subst hk'
    refine cu.done _ m as' σ' s' _ _ I' (jok _ _ j') c' na' e fun s'' I'' t => ?_
    have f := cu.fields _ _ _ c'
    exact wpAny_pure ⟨rfl, σ', as', I'', S'.tick t na, eo'.tick t f, R'.tick f t, j', hD', sn'.tick t na1⟩
  | some p =>
    refine cu.item k m as' σ' s' p _ _ I' (jok _ _ j') c' na' e fun v s₃ I₃ t c₃ V₃ => ?_
    have f := cu.fields _ _ _ c'
    have R₃ := R'.tick f t
    have S₃ := S'.tick t na
    have E₃ := eo'.tick t f
    refine wpAny_bind (cu.quiet _ _ _ _ _ _ _ c₃ ?_)
    refine wpAny_bind (wpm (jt k p σ' e j' m as' s₃ v I₃ R₃ E₃ V₃) fun _ s₄ H => ?_)
    obtain ⟨m₄, ρ₄, I₄, T₄, R₄, E₄, em, hsub, h₄⟩ := H
    have hm : m₄ = m := by rcases em with x | x; exact absurd x hl; exact x
    subst hm
    have S₄ : Stp F.L h₀ as₀ s₄.heap as' := S₃.tick T₄ nC
    have N₄ : StpN s₃.heap as' s₄.heap as' := by
      rcases E₃ with x | ⟨_, _, ⟨mc, x⟩, _⟩
      · exact absurd x hl
      · exact T₄.toN x
    have c₄ := cu.frame _ _ _ _ _ c₃ N₄ na'
    refine wpAny_bind (wpm (WPT.go ifs h₄ m₄ as' s₄ I₄ R₄) fun b s₅ H => ?_)
    obtain ⟨σ₅, as₅, I₅, S₅, q₅⟩ := H
    have hk' : k < ps.length := (List.getElem?_eq_some_iff.mp e).1
    have fa : ∃ o, s₄.heap.get? a = some o := let ⟨o, _, e, _⟩ := cu.fields _ _ _ c₄; ⟨o, e⟩
    obtain ⟨oa, hoa⟩ := fa
    have na₅ := S₅.notMem hoa na'
    have c₅ := cu.frame _ _ _ _ _ c₄ S₅.toN na'
    cases b with
    | false =>
      simp only [Bool.false_eq_true, if_false]
      exact wpAny_pure ⟨rfl, ps.length - (k + 1), by omega, k + 1, as₅, σ₅, rfl, ⟨hk', I₅, S₄.trans S₅, E₄.stp (L := F.L) S₅, (R₄.stp S₅).sub hsub, c₅, na₅, q₅.2 rfl, getElem?_of_prefix S₅.pre hD', ((sn'.tick t na1).trans N₄).trans S₅.toN⟩⟩
    | true =>
      simp only [if_true]
      refine q₅.1 rfl m₄ as₅ s₅ h₀ as₀ (getElem?_of_prefix S₅.pre hD') I₅ (R₄.stp S₅) (E₄.stp (L := F.L) S₅) (S₄.trans S₅) nC _ _ _ fun s₆ σ₆ as₆ I₆ S₆ N₆ E₆ R₆ j₆ => ?_
      obtain ⟨ob, vb, hob, hdb⟩ := cu.fields _ _ _ c₅
      exact wpAny_pure ⟨rfl, ps.length - (k + 1), by omega, k + 1, as₆, σ₆, rfl, ⟨hk', I₆, S₆, E₆, R₆, cu.frame _ _ _ _ _ c₅ N₆ na₅, N₆.notMem _ _ hob na₅ (by rw [hdb]; intro _ _ q; cases q), j₆, getElem?_of_prefix N₆.pre (getElem?_of_prefix S₅.pre hD'), (((sn'.tick t na1).trans N₄).trans S₅.toN).trans N₆⟩⟩
end


theorem closure_of {scope : Scope} {env : Env} (h : ∀ x ∈ scope.names, x.2 = .free → (env.cells.lookup x.1).isSome = true) :
    ∃ cl, closureFor scope env = pure cl ∧ ∀ x, (x, NameKind.free) ∈ scope.names → cl.lookup x = env.cells.lookup x := by
  have key : ∀ (names : List (Str × NameKind)) (acc : List (Str × Addr)), (∀ x ∈ names, x.2 = .free → (env.cells.lookup x.1).isSome = true) →
      ∃ cl, (forIn names acc fun (x : Str × NameKind) (cs : List (Str × Addr)) => if (x.2 == NameKind.free) = true then do let a ← cellOf env x.1; pure (ForInStep.yield ((x.1, a) :: cs)) else pure (ForInStep.yield cs)) = (pure cl : Sem (List (Str × Addr))) ∧
        ∀ x, ((x, NameKind.free) ∈ names ∨ acc.lookup x = env.cells.lookup x) → cl.lookup x = env.cells.lookup x := by
    intro names
    induction names with
    | nil => exact fun acc _ => ⟨acc, by rw [List.forIn_nil], fun x hx => hx.elim (fun z => by cases z) id⟩
    | cons p names ih =>
      intro acc hh
      obtain ⟨y, k⟩ := p
      by_cases hk : k = .free
      · subst hk
        obtain ⟨a, ha⟩ := Option.isSome_iff_exists.mp (hh (y, .free) (.head _) rfl)
        obtain ⟨cl, e, r⟩ := ih ((y, a) :: acc) fun x hx => hh x (.tail _ hx)
        refine ⟨cl, ?_, fun x hx => r x ?_⟩
        · rw [List.forIn_cons]
          have : cellOf env y = pure a := by unfold cellOf; rw [ha]
          simp only [beq_self_eq_true, if_true, this]
          exact e
        · by_cases q : x = y
          · subst q; right; rw [List.lookup_cons, ha]; simp
          · rcases hx with hx | hx
            · left
              rcases List.mem_cons.mp hx with z | z
              · exact absurd (by cases z; rfl) q
              · exact z
            · right; rw [List.lookup_cons, show (x == y) = false from by simpa using q]; exact hx
      · obtain ⟨cl, e, r⟩ := ih acc fun x hx => hh x (.tail _ hx)
        refine ⟨cl, ?_, fun x hx => r x ?_⟩
        · rw [List.forIn_cons]
          have : (k == NameKind.free) = false := by simpa using hk
          simp only [this, Bool.false_eq_true, if_false]
          exact e
        · rcases hx with hx | hx
          · rcases List.mem_cons.mp hx with z | z
            · cases z; exact absurd rfl hk
            · exact .inl z
          · exact .inr hx
  obtain ⟨cl, e, r⟩ := key scope.names [] h
  refine ⟨cl, ?_, fun x hx => r x (.inl hx)⟩
  have e' : closureFor scope env = ((forIn scope.names [] fun (x : Str × NameKind) (cs : List (Str × Addr)) => if (x.2 == NameKind.free) = true then do let a ← cellOf env x.1; pure (ForInStep.yield ((x.1, a) :: cs)) else pure (ForInStep.yield cs)) >>= fun cs => pure cs) := rfl
  rw [e', e]
  rfl

theorem relabel_keep {env : Env} {k : NameKind} (hk : k ≠ .free) : ∀ {names : List (Str × NameKind)} {x : Str}, names.lookup x = some k →
    (names.map fun (n, k) => if (k == NameKind.free && env.scope.kind == .function && env.kindOf n == some .cell) then (n, NameKind.cell) else (n, k)).lookup x = some k
  | [], _, h => by simp at h
  | (n, k') :: r, x, h => by
    show List.lookup x ((if (k' == NameKind.free && env.scope.kind == .function && env.kindOf n == some .cell) = true then (n, NameKind.cell) else (n, k')) :: _) = _
    cases hx : x == n with
    | true =>
      simp only [List.lookup_cons, hx] at h
      cases h
      have : (k == NameKind.free) = false := by simpa using hk
      simp [List.lookup_cons, hx, this]
    | false =>
      simp only [List.lookup_cons, hx] at h
      have ih := @relabel_keep env k hk r x h
      by_cases hc : (k' == NameKind.free && env.scope.kind == .function && env.kindOf n == some .cell) = true
      · rw [if_pos hc]; simp only [List.lookup_cons, hx]; exact ih
      · rw [if_neg hc]; simp only [List.lookup_cons, hx]; exact ih
theorem relabel_free {env : Env} : ∀ {names : List (Str × NameKind)} {x : Str}, names.lookup x = some .free →
    (names.map fun (n, k) => if (k == NameKind.free && env.scope.kind == .function && env.kindOf n == some .cell) then (n, NameKind.cell) else (n, k)).lookup x = some .cell ∨
    (names.map fun (n, k) => if (k == NameKind.free && env.scope.kind == .function && env.kindOf n == some .cell) then (n, NameKind.cell) else (n, k)).lookup x = some .free
  | [], _, h => by simp at h
  | (n, k') :: r, x, h => by
    show List.lookup x ((if (k' == NameKind.free && env.scope.kind == .function && env.kindOf n == some .cell) = true then (n, NameKind.cell) else (n, k')) :: _) = _ ∨ List.lookup x ((if (k' == NameKind.free && env.scope.kind == .function && env.kindOf n == some .cell) = true then (n, NameKind.cell) else (n, k')) :: _) = _
    cases hx : x == n with
    | true =>
      simp only [List.lookup_cons, hx] at h
      cases h
      by_cases hc : (NameKind.free == NameKind.free && env.scope.kind == .function && env.kindOf n == some .cell) = true
      · left; rw [if_pos hc]; simp only [List.lookup_cons, hx]
      · right; rw [if_neg hc]; simp only [List.lookup_cons, hx]
    | false =>
      simp only [List.lookup_cons, hx] at h
      have ih := @relabel_free env r x h
      by_cases hc : (k' == NameKind.free && env.scope.kind == .function && env.kindOf n == some .cell) = true
      · rw [if_pos hc]; simp only [List.lookup_cons, hx]; exact ih
      · rw [if_neg hc]; simp only [List.lookup_cons, hx]; exact ih

/-- the environment of a comprehension in a frame -/
structure CompEnv (F : FX) (scope : Scope) (cenv : Env) : Prop where
  nL : cenv.locals ≠ F.L
  kind : ∀ x k, scope.names.lookup x = some k → k ≠ .free → cenv.kindOf x = some k

section
variable {G : GX} {F : FX} {env : Env} {ρ ρ' : PEnv} {σ : List Cell}

theorem EM.append {ρ₀ : PEnv} {i : Nat} {D : Addr} {elt : Expr} {K : List Cell → Prop} (h : WPE G F env ρ σ elt fun q σ' => ∃ l, σ'[i]? = some (.list l) ∧ l.length ≤ 1000 ∧ K (σ'.set i (.list (l ++ [q])))) (hs : ∀ x q, ρ₀.lookup x = some q → ρ.lookup x = some q) :
    EM G F env i D ρ ρ₀ σ (fun k => do (do let _ ← call (.builtin "list.append") [.ref D, ← eval elt env]); k) K := fun m as s h₀ as₀ hD I R eo S nC k Q E hk => by
  refine wpAny_bind (wpAny_bind (wpm (h m as s I R) fun x s₁ H => ?_))
  obtain ⟨q, σ₁, as₁, I₁, S₁, V₁, l, hi, hl, hK⟩ := H
  have VD : VR s₁.heap as₁ (.ref i) (.ref D) := by rw [VR]; exact ⟨D, getElem?_of_prefix S₁.pre hD, rfl⟩
  refine wpAny_bind (wpm (OpN.append (Q := fun p σ' => K σ') hi hl hK m as₁ s₁ [.ref D, x] I₁ (.cons VD (.cons V₁ .nil))) fun _ s₂ H => ?_)
  obtain ⟨p, σ₂, as₂, I₂, S₂, V₂, hK⟩ := H
  have S' := S₁.trans S₂
  exact wpAny_pure (hk s₂ σ₂ as₂ I₂ (S.trans S') S'.toN (eo.stp (L := F.L) S') ((R.stp S').sub hs) hK)

/-- the start of a comprehension: its list, its namespace -/
theorem comp_start {n : Nat} (O : F.Ok G n) {scope : Scope} (ρc : PEnv) {cl : List (Str × Addr)} (hcl : ∀ x, (x, NameKind.free) ∈ scope.names → cl.lookup x = F.env.cells.lookup x)
    (hcell : ∀ x ∈ scope.names, x.2 ≠ .cell) (hkind : scope.kind = .function)
    (hρ : ∀ x p, ρc.lookup x = some p → ρ.lookup x = some p ∧ scope.names.lookup x = some .free ∧ F.env.kindOf x ≠ some .local)
    {m as s h₀ as₀} (I : Inv G F m as σ s) (R : ER F.L m F.env s.heap as ρ) (S : Stp F.L h₀ as₀ s.heap as) {Q : Value → Env → Shared → Prop}
    (h : ∀ C D as' s', Inv G F m as' (σ ++ [.list []]) s' → Stp F.L s.heap as s'.heap as' → Stp F.L h₀ as₀ s'.heap as' → as'[σ.length]? = some D → h₀.get? C = none → s.heap.get? C = none → (∃ mc, s'.heap.Ns C mc) →
      CompEnv F scope (compEnvC scope cl C F.env) → EO F (compEnvC scope cl C F.env) s'.heap as' → ER F.L m (compEnvC scope cl C F.env) s'.heap as' ρc → Q (.ref D) (newEnv scope C F.env.globals cl F.env.qual none .none (some F.env) builtinsNs) s')
    : wpAny (model G.prog G.w) F.A (newList []) (fun acc s₃ => wpAny (model G.prog G.w) F.A (newFunctionEnv scope F.env.globals cl [] F.env.qual none .none (some F.env)) (fun cenv s₄ => Q acc cenv s₄) NoE s₃) NoE s := by
  refine wpm (newList_ (ps := []) (Q := fun p σ' => p = .ref σ.length ∧ σ' = σ ++ [.list []]) I VRs.nil (by simp) ⟨rfl, rfl⟩) fun acc s₁ H => ?_
  obtain ⟨p, σ₁, as₁, I₁, S₁, V₁, rfl, rfl⟩ := H
  obtain ⟨D, hD, rfl⟩ := V₁.eRef
  refine wpAny_newFunctionEnv hcell (by intro y hy; simp at hy) (fun h₁ hns₁ hsb₁ => ?_) hkind
  have up : ∀ b o, s₁.heap.get? b = some o → h₁.get? b = some o := fun b o e => (hsb₁.2 b fun z => by rw [z, I₁.top.1] at e; cases e).trans (Heap.get?_push_of_some _ e)
  obtain ⟨I₂, S₂⟩ := I₁.grow (s' := { s₁ with heap := h₁, toks := s₁.toks + ([] : List (Str × Value)).length }) (fun b o e _ => up b o e) (I₁.frUp up) rfl rfl
  have out := I₁.topOut
  have nL : s₁.heap.objs.size ≠ F.L := Ne.symm I₁.top.2
  have f0 : s.heap.get? s₁.heap.objs.size = none := stp_none S₁ I₁.top.1 nL fun q => out (S₁.mem q)
  have f00 : h₀.get? s₁.heap.objs.size = none := stp_none S f0 nL fun q => out (S₁.mem (S.mem q))
  have R₂ := (R.stp S₁).stp S₂
  refine h _ D as₁ _ I₂ (S₁.trans S₂) (S.trans (S₁.trans S₂)) hD f00 f0 ⟨_, hns₁⟩ ⟨nL, fun x k e hk => ?_⟩ (.inr ⟨nL, I₁.n0 I₁.top.1, ⟨_, hns₁⟩, out⟩) ⟨?_, R.glob, R.bins, fun x p e => ?_⟩
  · exact relabel_keep hk e
  · exact hkind
  · obtain ⟨e1, e2, e3⟩ := hρ x p e
    obtain ⟨v, N, V⟩ := R₂.names x p e1
    have hc' := hcl x (lookup_mem e2)
    have hk' := relabel_free (env := F.env) e2
    refine ⟨v, ?_, V⟩
    cases N with
    | own _ hk _ => exact absurd hk e3
    | comp mc _ hk => exact absurd hk e3
    | cell a o hk hc ho hd na =>
      rcases hk' with q | q
      · exact .cell a o q (hc'.trans hc) ho hd na
      · exact .free a o q (hc'.trans hc) ho hd na
    | free a o hk hc ho hd na =>
      rcases hk' with q | q
      · exact .cell a o q (hc'.trans hc) ho hd na
      · exact .free a o q (hc'.trans hc) ho hd na
end

section
variable {G : GX} {F : FX} {env : Env} {ρ ρ' : PEnv} {σ : List Cell}

/-- the turns of a comprehension, told in the store -/
noncomputable def Turns (G : GX) (F : FX) (env : Env) (ρ : PEnv) (target : Expr) (ifs : List Expr) (ps : List PV) (J : Nat → List Cell → Prop) (out : PEnv → List Cell → (List Cell → Prop) → Prop) : Prop :=
  ∀ k p σ', ps[k]? = some p → J k σ' → WPA G F env ρ σ' target p fun ρ' => (∀ x q, ρ.lookup x = some q → ρ'.lookup x = some q) ∧ WPT G F env ρ' ifs σ' fun b σ₂ => (b = true → out ρ' σ₂ (J (k + 1))) ∧ (b = false → J (k + 1) σ₂)
theorem Turns.mono {target : Expr} {ifs : List Expr} {ps : List PV} {J : Nat → List Cell → Prop} {out out' : PEnv → List Cell → (List Cell → Prop) → Prop} (h : Turns G F env ρ target ifs ps J out)
    (k : ∀ ρ' σ' K, (∀ x q, ρ.lookup x = some q → ρ'.lookup x = some q) → out ρ' σ' K → out' ρ' σ' K) : Turns G F env ρ target ifs ps J out' := fun i p σ' e j => by
  intro m as s v I R eo V
  refine wpm (h i p σ' e j m as s v I R eo V) fun _ s' H => ?_
  obtain ⟨m', ρ', I', T', R', E', em, hs, ht⟩ := H
  refine ⟨m', ρ', I', T', R', E', em, hs, ?_⟩
  have key : ∀ (cs : List Expr) (σ₁ : List Cell), WPT G F env ρ' cs σ₁ (fun b σ₂ => (b = true → out ρ' σ₂ (J (i + 1))) ∧ (b = false → J (i + 1) σ₂)) → WPT G F env ρ' cs σ₁ (fun b σ₂ => (b = true → out' ρ' σ₂ (J (i + 1))) ∧ (b = false → J (i + 1) σ₂)) := by
    intro cs
    induction cs with
    | nil => exact fun σ₁ h => ⟨fun e => k _ _ _ hs (h.1 e), h.2⟩
    | cons c cs ih =>
      intro σ₁ h
      intro m as s I R
      refine wpm (h m as s I R) fun b s₁ ⟨σ₂, as₂, I₂, S₂, q₂⟩ => ⟨σ₂, as₂, I₂, S₂, fun e => ih _ (q₂.1 e), fun e => ⟨(fun z => by cases z), (q₂.2 e).2⟩⟩
  exact key ifs σ' ht
/-- an element is put out -/
noncomputable def outElt (G : GX) (F : FX) (env : Env) (i : Nat) (elt : Expr) : PEnv → List Cell → (List Cell → Prop) → Prop := fun ρ σ K => WPE G F env ρ σ elt fun q σ' => ∃ l, σ'[i]? = some (.list l) ∧ l.length ≤ 1000 ∧ K (σ'.set i (.list (l ++ [q])))

theorem ER.tickOwn {L I : Addr} {m : Str → Option Value} {h h' : Heap} {as : List Addr} (R : ER L m env h as ρ) (hl : env.locals = L) (f : Off h I) (t : Tick I h h') : ER L m env h' as ρ :=
  ⟨R.kind, R.glob, R.bins, fun x pv e => let ⟨v, a, b⟩ := R.names x pv e; ⟨v, match a with
    | .own hl hk hm => .own hl hk hm
    | .comp mc hl' hk _ n hm => absurd hl hl'
    | .cell c o hk hc ho hd n => .cell c o hk hc (t _ _ ho (f.ne ho (.inr ⟨_, hd⟩))) hd n
    | .free c o hk hc ho hd n => .free c o hk hc (t _ _ ho (f.ne ho (.inr ⟨_, hd⟩))) hd n, b.tick f t⟩⟩

/-- the walk of a comprehension up to its end: what is then known -/
theorem comp_walk {n : Nat} (O : F.Ok G n) {elt target iter : Expr} {ifs : List Expr} {rest : List Comprehension} {scope : Scope} {pos : Pos} (ρc : PEnv) {cl : List (Str × Addr)} (out : Env → Nat → PEnv → List Cell → (List Cell → Prop) → Prop) (emit : Env → Addr → Sem Fin → Sem Fin)
    (hcl : ∀ x, (x, NameKind.free) ∈ scope.names → cl.lookup x = F.env.cells.lookup x)
    (hcell : ∀ x ∈ scope.names, x.2 ≠ .cell) (hkind : scope.kind = .function)
    (hρ : ∀ x p, ρc.lookup x = some p → ρ.lookup x = some p ∧ scope.names.lookup x = some .free ∧ F.env.kindOf x ≠ some .local)
    (hturn : ∀ it D env, compTurn (.ListComp elt (⟨target, iter, ifs, 0⟩ :: rest) scope pos) 0 it (.ref D) env = turnForm target iter ifs it env (emit env D) (again (.compLoop (.ListComp elt (⟨target, iter, ifs, 0⟩ :: rest) scope pos) 0 it (.ref D) env)))
    (hem : ∀ cenv i D ρ' σ' K, CompEnv F scope cenv → (∀ x q, ρc.lookup x = some q → ρ'.lookup x = some q) → out cenv i ρ' σ' K → EM G F cenv i D ρ' ρc σ' (emit cenv D) K)
    {K : List Cell → Nat → Prop}
    (h : WPI G F F.env ρ σ iter fun ps ok σ₁ => ∃ J : Nat → List Cell → Prop, J 0 (σ₁ ++ [.list []]) ∧ (∀ k σ', J k σ' → ok σ') ∧ (∀ cenv, CompEnv F scope cenv → Turns G F cenv ρc target ifs ps J (out cenv σ₁.length)) ∧ (∀ σ', J ps.length σ' → K σ' σ₁.length))
    {m as s} (I : Inv G F m as σ s) (R : ER F.L m F.env s.heap as ρ) {Q : Value → Addr → Result → Shared → Prop}
    (hQ : ∀ C D σ' as' s' i, Inv G F m as' σ' s' → Stp F.L s.heap as s'.heap as' → as'[i]? = some D → K σ' i → C ≠ F.L → F.h₀.get? C = none → (∃ mc, s'.heap.Ns C mc) → C ∉ as' → s.heap.get? C = none → Q (.ref D) C (.ok .next) s') :
    wpAny (model G.prog G.w) F.A (eval iter F.env) (fun x s₁ => wpAny (model G.prog G.w) F.A (pyIter x) (fun it s₂ => wpAny (model G.prog G.w) F.A (newList []) (fun acc s₃ =>
      wpAny (model G.prog G.w) F.A (newFunctionEnv scope F.env.globals cl [] F.env.qual none .none (some F.env)) (fun cenv s₄ =>
        codeAny (model G.prog G.w) F.A (.compStart (.ListComp elt (⟨target, iter, ifs, 0⟩ :: rest) scope pos) 0 it acc { cenv with scope := relabel scope F.env }) (Q acc cenv.locals) s₄) NoE s₃) NoE s₂) NoE s₁) NoE s := by
  refine wpm (h m as s I R) fun x s₁ H => wpm H fun it s₂ H => ?_
  obtain ⟨a, σ₁, as₁, ps, C, ok, rfl, I₁, S₁, cu, c0, na, n0, ok0, J, j0, jok, jt, jn⟩ := H
  refine comp_start O ρc hcl hcell hkind hρ I₁ (R.stp S₁) S₁ (Q := fun acc cenv s₄ => codeAny (model G.prog G.w) F.A (.compStart (.ListComp elt (⟨target, iter, ifs, 0⟩ :: rest) scope pos) 0 (.ref a) acc { cenv with scope := relabel scope F.env }) (Q acc cenv.locals) s₄) ?_
  intro C' D as' s' I' St' Sb hD nC nC2 hmc ce eo R'
  obtain ⟨oa, va, hoa, hda⟩ := cu.fields _ _ _ c0
  have nd : ∀ es ep, oa.data ≠ .dict es ep := by rw [hda]; intro _ _ q; cases q
  have loop : codeAny (model G.prog G.w) F.A (.compLoop (.ListComp elt (⟨target, iter, ifs, 0⟩ :: rest) scope pos) 0 (.ref a) (.ref D) (compEnvC scope cl C' F.env)) (Q (.ref D) C') s' := by
    refine codeAny_mono (comp_loop (i := σ₁.length) (h₁ := s.heap) (as₁ := as) (emit := emit (compEnvC scope cl C' F.env) D) cu ce.nL (hturn _ _ _) J jok (fun k p σ' e j => ?_) I' R' eo Sb nC n0 (cu.frame _ _ _ _ _ c0 St'.toN na) (St'.notMem hoa na) j0 hD Sb.toN n0) fun r s'' H => ?_
    · exact (jt _ ce).mono (fun ρ' σ' K hs h => hem _ _ _ _ _ _ ce hs h) k p σ' e j
    · obtain ⟨rfl, σ'', as'', I'', S'', E'', R'', j'', hD'', _⟩ := H
      rcases E'' with q | ⟨q1, q2, q3, q4⟩
      · exact absurd q ce.nL
      · exact hQ C' D σ'' as'' s'' _ I'' S'' hD'' (jn _ j'') q1 q2 q3 q4 nC
  exact codeAny_compStart_list loop (cu.self _ _ _ _ _ (cu.frame _ _ _ _ _ c0 St'.toN na) loop)

theorem WPE.comp {n : Nat} (O : F.Ok G n) {elt target iter : Expr} {ifs : List Expr} {scope : Scope} {pos : Pos} (ρc : PEnv) {Q : PV → List Cell → Prop}
    (h : WPI G F F.env ρ σ iter fun ps ok σ₁ => ∃ J : Nat → List Cell → Prop, J 0 (σ₁ ++ [.list []]) ∧ (∀ k σ', J k σ' → ok σ') ∧ (∀ cenv, CompEnv F scope cenv → Turns G F cenv ρc target ifs ps J (outElt G F cenv σ₁.length elt)) ∧ (∀ σ', J ps.length σ' → Q (.ref σ₁.length) σ'))
    (hρ : ∀ x p, ρc.lookup x = some p → ρ.lookup x = some p ∧ scope.names.lookup x = some .free ∧ F.env.kindOf x ≠ some .local)
    (hfree : ∀ x ∈ scope.names, x.2 = .free → (F.env.cells.lookup x.1).isSome = true) (hcell : ∀ x ∈ scope.names, x.2 ≠ .cell := by decide) (hkind : scope.kind = .function := by rfl) (hnames : ∀ x ∈ scope.names, x.2 = .local → scope.names.lookup x.1 = some .local := by decide)
    (hs : ∀ x, foldedSetIterable iter F.env x = pure x := by intro _; rfl) : WPE G F F.env ρ σ (.ListComp elt [⟨target, iter, ifs, 0⟩] scope pos) Q := fun m as s I R => by
  obtain ⟨cl, hclos, hcl⟩ := closure_of hfree
  rw [eval_ListComp]
  refine wpAny_comprehension_free (use := none) rfl hs hclos hkind hnames ?_
  refine comp_walk O ρc (fun cenv i => outElt G F cenv i elt) (fun env D k => do (do let _ ← PySem.call (.builtin "list.append") [.ref D, ← eval elt env]); k) hcl hcell hkind hρ (fun it D env => turn_list _ _ _ _ _ _ _ _ _) (fun cenv i D ρ' σ' K ce hs h => EM.append h hs) (K := fun σ' i => Q (.ref i) σ') h I R (Q := fun acc C => compPost (model G.prog G.w) F.A NoE none (PE G F m as s.heap Q) acc C) ?_
  intro C D σ' as' s' i I' S' hD hK nL n0 hns out nC
  obtain ⟨mc, hns⟩ := hns
  refine ⟨mc, hns, fun h' hs' => ?_⟩
  have t : Tick C s'.heap h' := fun b o e nl => (hs'.2 b nl).trans e
  exact ⟨.ref i, σ', as', I'.tick (s' := { s' with heap := h' }) (Heap.Ns.off hns) t out nL n0 rfl rfl, S'.tick t nC, by rw [VR]; exact ⟨D, hD, rfl⟩, hK⟩

theorem comp_assign {n : Nat} (O : F.Ok G n) {y : Str} {py : Pos} (hy : F.env.kindOf y = some .local) {N : PEnv → List Cell → Prop} {Rt : PV → List Cell → Prop} {m : Str → Option Value} {as as' : List Addr} {s s' : Shared} {i : Nat} (R : ER F.L m F.env s.heap as ρ) {C D : Addr} {σ' : List Cell} (I' : Inv G F m as' σ' s') (S' : Stp F.L s.heap as s'.heap as')
    (hD : as'[i]? = some D) (hK : N ((y, .ref i) :: ρ) σ') (nL : C ≠ F.L) (n0 : F.h₀.get? C = none) (hns : ∃ mc, s'.heap.Ns C mc) (out : C ∉ as') (nC : s.heap.get? C = none) :
    compPost (model G.prog G.w) F.A NoE (some (PySem.assign (.Name y py) F.env)) (fun _ s' => PF G F as s.heap N Rt .next s') (.ref D) C (.ok .next) s' := by
  obtain ⟨mc, hns⟩ := hns
  show wpAny _ F.A (PySem.assign (.Name y py) F.env (.ref D)) _ _ s'
  refine wpm (WPA.name (ρ := ρ) (p := .ref i) (N := fun ρ' => ρ' = (y, .ref i) :: ρ) O hy rfl m as' s' (.ref D) I' (R.stp S') (.inl O.el) (by rw [VR]; exact ⟨D, hD, rfl⟩)) fun _ s₂ H => ?_
  obtain ⟨m₂, ρ₂, I₂, T₂, R₂, _, _, rfl⟩ := H
  have T₂' : Tick F.L s'.heap s₂.heap := O.el ▸ T₂
  obtain ⟨oc, es, ep, hoc, hr⟩ := id hns
  have hns₂ : s₂.heap.Ns C mc := ⟨oc, es, ep, T₂' _ _ hoc nL, hr⟩
  refine ⟨mc, hns₂, fun h' hs' => ?_⟩
  have t : Tick C s₂.heap h' := fun b o e nl => (hs'.2 b nl).trans e
  have f := Heap.Ns.off hns₂
  exact ⟨m₂, σ', as', I₂.tick (s' := { s₂ with heap := h' }) f t out nL n0 rfl rfl, (S'.trans (Tick.stp I' T₂')).tick t nC, _, R₂.tickOwn O.el f t, hK⟩
theorem swaps_of {elt target iter : Expr} {ifs : List Expr} {rest : List Comprehension} {scope : Scope} {pos py : Pos} {y : Str} {line : Nat} (hk : env.blockKind = .function) (hy : env.kindOf y = some .local)
    (h : (py.line == pos.line && !(scope.names.any fun (n, k) => n == y && (k == .local || k == .cell))) = true) : swapsWith (.ListComp elt (⟨target, iter, ifs, 0⟩ :: rest) scope pos) (some (.Name y py)) line env = pure true := by
  show (pure (env.blockKind == .function && env.kindOf y == some .local && py.line == pos.line && !(scope.names.any fun (n, k) => n == y && (k == .local || k == .cell))) : Sem Bool) = pure true
  rw [hk, hy]
  simp only [beq_self_eq_true, Bool.true_and]
  rw [h]
theorem WPX.comp {n : Nat} (O : F.Ok G n) {y : Str} {py spos : Pos} {elt target iter : Expr} {ifs : List Expr} {scope : Scope} {pos : Pos} (ρc : PEnv) {N : PEnv → List Cell → Prop} {Rt : PV → List Cell → Prop} (hy : F.env.kindOf y = some .local)
    (h : WPI G F F.env ρ σ iter fun ps ok σ₁ => ∃ J : Nat → List Cell → Prop, J 0 (σ₁ ++ [.list []]) ∧ (∀ k σ', J k σ' → ok σ') ∧ (∀ cenv, CompEnv F scope cenv → Turns G F cenv ρc target ifs ps J (outElt G F cenv σ₁.length elt)) ∧ (∀ σ', J ps.length σ' → N ((y, .ref σ₁.length) :: ρ) σ'))
    (hρ : ∀ x p, ρc.lookup x = some p → ρ.lookup x = some p ∧ scope.names.lookup x = some .free ∧ F.env.kindOf x ≠ some .local)
    (hfree : ∀ x ∈ scope.names, x.2 = .free → (F.env.cells.lookup x.1).isSome = true)
    (hsw : (py.line == pos.line && !(scope.names.any fun (n, k) => n == y && (k == .local || k == .cell))) = true := by rfl)
    (hcell : ∀ x ∈ scope.names, x.2 ≠ .cell := by decide) (hkind : scope.kind = .function := by rfl) (hnames : ∀ x ∈ scope.names, x.2 = .local → scope.names.lookup x.1 = some .local := by decide)
    (hs : ∀ x, foldedSetIterable iter F.env x = pure x := by intro _; rfl) : WPX G F ρ σ (.Assign [.Name y py] (.ListComp elt [⟨target, iter, ifs, 0⟩] scope pos) spos) N Rt := fun m as s I R => by
  obtain ⟨cl, hclos, hcl⟩ := closure_of hfree
  have hbk : F.env.blockKind = .function := by unfold Env.blockKind; rw [O.ek]; rfl
  rw [exec_Assign_Name_used _ _ _ _ (swaps_of hbk hy hsw)]
  refine wpAny_bind (wpAny_standAt (wpAny_bind ?_))
  show wpAny _ F.A (do let _ ← comprehension (.ListComp elt [⟨target, iter, ifs, 0⟩] scope pos) scope F.env _ (newList []) false (eval iter F.env) (some (PySem.assign (.Name y py) F.env))) _ _ s
  refine wpAny_bind (wpm (wpAny_comprehension_free (use := some (PySem.assign (.Name y py) F.env)) (Q := fun _ s' => PF G F as s.heap N Rt .next s') rfl hs hclos hkind hnames ?_) fun _ s' hq => wpAny_pure (wpAny_pure hq))
  refine comp_walk O ρc (fun cenv i => outElt G F cenv i elt) (fun env D k => do (do let _ ← PySem.call (.builtin "list.append") [.ref D, ← eval elt env]); k) hcl hcell hkind hρ (fun it D env => turn_list _ _ _ _ _ _ _ _ _) (fun cenv i D ρ' σ' K ce hs h => EM.append h hs) (K := fun σ' i => N ((y, .ref i) :: ρ) σ') h I R (Q := fun acc C => compPost (model G.prog G.w) F.A NoE (some (PySem.assign (.Name y py) F.env)) (fun _ s' => PF G F as s.heap N Rt .next s') acc C) ?_
  intro C D σ' as' s' i I' S' hD hK nL n0 hns out nC
  exact comp_assign O hy R I' S' hD hK nL n0 hns out nC
end


mutual
noncomputable def PV.dat : PV → PyData
  | .none => .none
  | .bool b => .bool b
  | .int i => .int i
  | .str x => .str x
  | .tup l => .tuple (PV.dats l)
  | .lst l => .list (PV.dats l)
  | .ref _ => .none
noncomputable def PV.dats : List PV → List PyData
  | [] => []
  | p :: l => PV.dat p :: PV.dats l
end
mutual
noncomputable def PV.flat : PV → Bool
  | .ref _ => false
  | .tup l => PV.flats l
  | .lst l => PV.flats l
  | _ => true
noncomputable def PV.flats : List PV → Bool
  | [] => true
  | p :: l => PV.flat p && PV.flats l
end
mutual
inductive DV (σ : List Cell) : PV → PyData → Prop
  | flat (p : PV) : p.flat = true → DV σ p p.dat
  | tup {l : List PV} {ds : List PyData} : DVs σ l ds → DV σ (.tup l) (.tuple ds)
  | list {i : Nat} {l : List PV} {ds : List PyData} : σ[i]? = some (.list l) → DVs σ l ds → DV σ (.ref i) (.list ds)
inductive DVs (σ : List Cell) : List PV → List PyData → Prop
  | nil : DVs σ [] []
  | cons {p d l ds} : DV σ p d → DVs σ l ds → DVs σ (p :: l) (d :: ds)
end

section
variable {G : GX} {F : FX} {env : Env} {ρ : PEnv} {σ : List Cell} {Q : PV → List Cell → Prop} {m : Str → Option Value} {as : List Addr} {s : Shared}

mutual
theorem flat_reads {h : Heap} {as : List Addr} : ∀ {p : PV} {v : Value}, VR h as p v → p.flat = true → ∃ bs, Reads h v p.dat bs
  | .none, v, H, _ => by rw [H.eNone]; exact ⟨_, .none⟩
  | .bool b, v, H, _ => by rw [H.eBool]; exact ⟨_, .bool _⟩
  | .int b, v, H, _ => by obtain ⟨_, rfl⟩ := H.eInt; exact ⟨_, .int _ _⟩
  | .str b, v, H, _ => by obtain ⟨_, rfl⟩ := H.eStr; exact ⟨_, .str _ _⟩
  | .ref _, v, _, f => by simp [PV.flat] at f
  | .tup l, v, H, f => by
    obtain ⟨a, vs, rfl, _, ⟨o, ho, hc, k, hd⟩, hv⟩ := H.eTup
    obtain ⟨bs, r⟩ := flats_reads hv (by simpa [PV.flat] using f)
    exact ⟨bs, by rw [PV.dat]; exact .tuple ho hc hd (by simpa using r)⟩
  | .lst l, v, H, f => by
    obtain ⟨a, vs, rfl, _, ⟨o, ho, hc, k, hd⟩, hv⟩ := H.eLst
    obtain ⟨bs, r⟩ := flats_reads hv (by simpa [PV.flat] using f)
    exact ⟨_, by rw [PV.dat]; exact .list ho hc hd (by simpa using r)⟩
theorem flats_reads {h : Heap} {as : List Addr} : ∀ {l : List PV} {vs : List Value}, VRs h as l vs → PV.flats l = true → ∃ bs, ReadsAll h vs (PV.dats l) bs
  | [], vs, H, _ => by rw [VRs] at H; subst H; exact ⟨_, .nil⟩
  | p :: l, vs, H, f => by
    rw [VRs] at H; obtain ⟨v, r, rfl, hv, hr⟩ := H
    simp only [PV.flats, Bool.and_eq_true] at f
    obtain ⟨bs, h1⟩ := flat_reads hv f.1
    obtain ⟨cs, h2⟩ := flats_reads hr f.2
    exact ⟨_, .cons h1 h2⟩
end
mutual
theorem DV.reads (I : Inv G F m as σ s) : ∀ {p : PV} {d : PyData} {v : Value}, DV σ p d → VR s.heap as p v → ∃ bs, Reads s.heap v d bs
  | _, _, _, .flat p f, V => flat_reads V f
  | _, _, _, .tup h, V => by
    obtain ⟨a, vs, rfl, _, ⟨o, ho, hc, k, hd⟩, hv⟩ := V.eTup
    obtain ⟨bs, r⟩ := DVs.reads I h hv
    exact ⟨bs, .tuple ho hc hd (by simpa using r)⟩
  | _, _, _, .list hi h, V => by
    obtain ⟨a, ha, rfl⟩ := V.eRef
    obtain ⟨vs, n, hg, hv⟩ := I.cr _ a _ ha hi
    obtain ⟨bs, r⟩ := DVs.reads I h hv
    exact ⟨_, .list hg rfl rfl (by simpa using r)⟩
theorem DVs.reads (I : Inv G F m as σ s) : ∀ {l : List PV} {ds : List PyData} {vs : List Value}, DVs σ l ds → VRs s.heap as l vs → ∃ bs, ReadsAll s.heap vs ds bs
  | _, _, _, .nil, V => by rw [VRs] at V; subst V; exact ⟨_, .nil⟩
  | _, _, _, .cons a b, V => by
    rw [VRs] at V; obtain ⟨v, r, rfl, hv, hr⟩ := V
    obtain ⟨bs, h1⟩ := DV.reads I a hv
    obtain ⟨cs, h2⟩ := DVs.reads I b hr
    exact ⟨_, .cons h1 h2⟩
end

theorem room {n : Nat} (O : F.Ok G n) : F.A.units + 64 < cLine := by have := O.hu; show F.A.units + 64 < 9900; omega
theorem Op2.eqD {n : Nat} (O : F.Ok G n) {p q : PV} {d e : PyData} (hp : DV σ p d) (hq : DV σ q e) (sd : SeqAt.shaped d = true) (se : SeqAt.shaped e = true) (h : Q (.bool (PyData.eqv d e)) σ) : Op2 G F σ p q (compareOp .Eq) Q := fun m as s v u I V U => by
  obtain ⟨_, r1⟩ := hp.reads I V; obtain ⟨_, r2⟩ := hq.reads I U
  exact eq_dataH r1 r2 sd se (room O) (PE.ret I rfl VR.bool h)
theorem Op2.neD {n : Nat} (O : F.Ok G n) {p q : PV} {d e : PyData} (hp : DV σ p d) (hq : DV σ q e) (sd : SeqAt.shaped d = true) (se : SeqAt.shaped e = true) (h : Q (.bool (!PyData.eqv d e)) σ) : Op2 G F σ p q (compareOp .NotEq) Q := fun m as s v u I V U => by
  obtain ⟨_, r1⟩ := hp.reads I V; obtain ⟨_, r2⟩ := hq.reads I U
  exact ne_dataH r1 r2 sd se (room O) (PE.ret I rfl VR.bool h)
theorem inRoom {n : Nat} (O : F.Ok G n) {xs : List PyData} {d : PyData} (hd : d.depth ≤ 64) : F.A.units + 1 + min (PyData.depthAll xs) d.depth < cLine := by
  have := O.hu; have : min (PyData.depthAll xs) d.depth ≤ 64 := Nat.le_trans (Nat.min_le_right _ _) hd
  show F.A.units + 1 + min (PyData.depthAll xs) d.depth < 9900; omega
theorem Op2.inTup {n : Nat} (O : F.Ok G n) {p q : PV} {d : PyData} {xs : List PyData} (hp : DV σ p d) (hq : DV σ q (.tuple xs)) (sd : SeqAt.shaped d = true) (se : PyData.canLayAll0 xs = true) (h : Q (.bool (xs.any fun y => PyData.eqv y d)) σ) : Op2 G F σ p q (compareOp .In) Q := fun m as s v u I V U => by
  obtain ⟨_, r1⟩ := hp.reads I V; obtain ⟨_, r2⟩ := hq.reads I U
  simp only [SeqAt.shaped, Bool.and_eq_true, decide_eq_true_eq] at sd
  exact SeqAt.in_tuple_reads r2 r1 se sd.1 (inRoom O sd.2) (PE.ret I rfl VR.bool h)
theorem Op2.notInTup {n : Nat} (O : F.Ok G n) {p q : PV} {d : PyData} {xs : List PyData} (hp : DV σ p d) (hq : DV σ q (.tuple xs)) (sd : SeqAt.shaped d = true) (se : PyData.canLayAll0 xs = true) (h : Q (.bool (!xs.any fun y => PyData.eqv y d)) σ) : Op2 G F σ p q (compareOp .NotIn) Q := fun m as s v u I V U => by
  obtain ⟨_, r1⟩ := hp.reads I V; obtain ⟨_, r2⟩ := hq.reads I U
  simp only [SeqAt.shaped, Bool.and_eq_true, decide_eq_true_eq] at sd
  exact SeqAt.notIn_tuple_reads r2 r1 se sd.1 (inRoom O sd.2) (PE.ret I rfl VR.bool h)
theorem Op2.inList {n : Nat} (O : F.Ok G n) {p q : PV} {d : PyData} {xs : List PyData} (hp : DV σ p d) (hq : DV σ q (.list xs)) (sd : SeqAt.shaped d = true) (se : PyData.canLayAll0 xs = true) (h : Q (.bool (xs.any fun y => PyData.eqv y d)) σ) : Op2 G F σ p q (compareOp .In) Q := fun m as s v u I V U => by
  obtain ⟨_, r1⟩ := hp.reads I V; obtain ⟨_, r2⟩ := hq.reads I U
  simp only [SeqAt.shaped, Bool.and_eq_true, decide_eq_true_eq] at sd
  exact SeqAt.in_list_reads r2 r1 se sd.1 (inRoom O sd.2) (PE.ret I rfl VR.bool h)
theorem Op2.notInList {n : Nat} (O : F.Ok G n) {p q : PV} {d : PyData} {xs : List PyData} (hp : DV σ p d) (hq : DV σ q (.list xs)) (sd : SeqAt.shaped d = true) (se : PyData.canLayAll0 xs = true) (h : Q (.bool (!xs.any fun y => PyData.eqv y d)) σ) : Op2 G F σ p q (compareOp .NotIn) Q := fun m as s v u I V U => by
  obtain ⟨_, r1⟩ := hp.reads I V; obtain ⟨_, r2⟩ := hq.reads I U
  simp only [SeqAt.shaped, Bool.and_eq_true, decide_eq_true_eq] at sd
  exact SeqAt.notIn_list_reads r2 r1 se sd.1 (inRoom O sd.2) (PE.ret I rfl VR.bool h)

-- sums and parts of sequences
theorem Op2.addL {i j : Nat} {l k : List PV} (hi : σ[i]? = some (.list l)) (hj : σ[j]? = some (.list k)) (hl : l.length + k.length ≤ 1000) (h : Q (.ref σ.length) (σ ++ [.list (l ++ k)])) : Op2 G F σ (.ref i) (.ref j) (binaryOp .Add) Q := fun m as s v u I V U => by
  obtain ⟨a, ha, rfl⟩ := V.eRef; obtain ⟨b, hb, rfl⟩ := U.eRef
  obtain ⟨vs, n, hg, hv⟩ := I.cr i a _ ha hi; obtain ⟨us, n', hg', hu⟩ := I.cr j b _ hb hj
  refine add_lists I.fr I.allNews (isL hg) (isL hg') (fun h' fr N => ?_) (by rw [hv.length, hu.length, sizeLine_eq]; omega)
  have up := kept_new (l := [(s.heap.objs.size, { cls := .type "list", data := .seq (vs ++ us).toArray })]) I fr N
  have st := I.stpNew up
  have hh := N (s.heap.objs.size, _) (.head _)
  obtain ⟨I', S'⟩ := I.new (s' := { s with heap := h' }) (c := .list (l ++ k)) up fr I.top.1 I.top.2 ⟨vs ++ us, 0, hh.1, (hv.stp st).append (hu.stp st)⟩ rfl rfl
  exact ⟨_, _, _, I', S', VR.last I.len, h⟩
theorem Op2.addT {l k : List PV} (hl : l.length + k.length ≤ 1000) (h : Q (.tup (l ++ k)) σ) : Op2 G F σ (.tup l) (.tup k) (binaryOp .Add) Q := fun m as s v u I V U => by
  obtain ⟨a, vs, rfl, na, ht, hv⟩ := id V.eTup; obtain ⟨b, us, rfl, nb, ht', hu⟩ := id U.eTup
  refine add_tuples I.fr I.allNews ht ht' (fun e => ?_) (fun _ e => ?_) (fun _ _ h' fr N => ?_) (by rw [hv.length, hu.length, sizeLine_eq]; omega)
  · have e1 : l = [] := by have := hv.length; rw [e] at this; exact List.length_eq_zero_iff.mp this.symm
    rw [e1, List.nil_append] at h
    exact PE.ret I rfl U h
  · have e1 : k = [] := by have := hu.length; rw [e] at this; exact List.length_eq_zero_iff.mp this.symm
    rw [e1, List.append_nil] at h
    exact PE.ret I rfl V h
  · have up := kept_new (l := [(s.heap.objs.size, { cls := .type "tuple", data := .seq (vs ++ us).toArray })]) I fr N
    have hh := N (s.heap.objs.size, _) (.head _)
    obtain ⟨I', S'⟩ := I.grow (s' := { s with heap := h' }) up fr rfl rfl
    refine ⟨.tup (l ++ k), σ, as, I', S', ?_, h⟩
    rw [VR]
    exact ⟨_, vs ++ us, rfl, I.topOut, ⟨_, hh.1, rfl, _, rfl⟩, (hv.stp S').append (hu.stp S')⟩

theorem VRs.drop {h as} : ∀ (n : Nat) {l : List PV} {vs : List Value}, VRs h as l vs → VRs h as (l.drop n) (vs.drop n)
  | 0, _, _, H => H
  | n + 1, [], _, H => by rw [VRs] at H; subst H; exact .nil
  | n + 1, p :: l, _, H => by rw [VRs] at H; obtain ⟨v, r, rfl, _, hr⟩ := H; exact VRs.drop n hr
theorem VRs.take {h as} : ∀ (n : Nat) {l : List PV} {vs : List Value}, VRs h as l vs → VRs h as (l.take n) (vs.take n)
  | 0, _, _, H => .nil
  | n + 1, [], _, H => by rw [VRs] at H; subst H; exact .nil
  | n + 1, p :: l, _, H => by rw [VRs] at H; obtain ⟨v, r, rfl, hv, hr⟩ := H; exact .cons hv (VRs.take n hr)

/-- t[k:] of a tuple -/
theorem WPE.tupFrom {e : Expr} {k : Nat} {tk : Nat} {kp sp pos : Pos} (h : WPE G F env ρ σ e fun p σ₁ => ∃ l, p = .tup l ∧ 1 ≤ k ∧ k ≤ l.length ∧ l.length ≤ 1000 ∧ Q (.tup (l.drop k)) σ₁) (hlt : ∀ v r, letTemporaryGo e v r = pure () := by intro _ _; rfl) : WPE G F env ρ σ (.Subscript e (.Slice (some (.Constant (.int k) tk kp)) none none sp) pos) Q := fun m as s I R =>
  Subscript_ (wpm (h m as s I R) fun v s₁ ⟨p, σ₁, as₁, I₁, S₁, V₁, l, hp, h1, h2, h3, q⟩ => by
    subst hp
    obtain ⟨a, vs, rfl, na, ht, hv⟩ := V₁.eTup
    refine wpAny_Slice ?_
    show wpAny _ _ (eval (.Constant (.int k) tk kp) env) _ _ s₁
    refine wpAny_Constant_int ?_
    show wpAny _ _ (pure Value.none) _ _ _
    refine wpAny_pure ?_
    show wpAny _ _ (pure Value.none) _ _ _
    refine wpAny_pure ?_
    have I2 := I₁.toks (s₁.toks + 1)
    refine slice_tuple_from (s := { s₁ with toks := s₁.toks + 1 }) I2.fr I2.allNews ht h1 (by rw [List.size_toArray, hv.length]; exact h2) (fun h' fr N => ?_) rfl (hlt _) (by rw [List.size_toArray, hv.length, sizeLine_eq]; omega)
    have up := kept_new (s := { s₁ with toks := s₁.toks + 1 }) (l := [(s₁.heap.objs.size + 1, { cls := .type "tuple", data := .seq (List.toArray (vs.drop k)) })]) I2 fr (by simpa using N)
    have hh := N (s₁.heap.objs.size + 1, _) (.head _)
    obtain ⟨I', S'⟩ := I₁.grow (s' := { s₁ with heap := h', toks := s₁.toks + 1 }) up fr rfl rfl
    refine ⟨.tup (l.drop k), σ₁, as₁, I', S₁.trans S', ?_, q⟩
    rw [VR]
    refine ⟨_, vs.drop k, rfl, fun q => ?_, ⟨_, hh.1, rfl, 0, rfl⟩, (hv.stp S').drop k⟩
    exact absurd (I₁.low q) (Nat.not_lt.mpr (Nat.le_succ _)))

/-- l[:-k] of a list -/
theorem WPE.listInit {e : Expr} {tk : Nat} {kp up sp pos : Pos} (h : WPE G F env ρ σ e fun p σ₁ => ∃ i l, p = .ref i ∧ σ₁[i]? = some (.list l) ∧ l.length ≤ 1000 ∧ Q (.ref σ₁.length) (σ₁ ++ [.list (l.take (l.length - 1))])) (hlt : ∀ v r, letTemporaryGo e v r = pure () := by intro _ _; rfl) :
    WPE G F env ρ σ (.Subscript e (.Slice none (some (.UnaryOp .USub (.Constant (.int 1) tk kp) up)) none sp) pos) Q := fun m as s I R =>
  Subscript_ (wpm (h m as s I R) fun v s₁ ⟨p, σ₁, as₁, I₁, S₁, V₁, i, l, hp, hi, h3, q⟩ => by
    subst hp
    obtain ⟨a, ha, rfl⟩ := V₁.eRef
    obtain ⟨vs, n, hg, hv⟩ := I₁.cr i a _ ha hi
    refine wpAny_Slice ?_
    show wpAny _ _ (pure Value.none) _ _ _
    refine wpAny_pure ?_
    show wpAny _ _ (eval (.UnaryOp .USub (.Constant (.int 1) tk kp) up) env) _ _ s₁
    refine UnaryOp_ (wpAny_Constant_int (neg_int ?_))
    show wpAny _ _ (pure Value.none) _ _ _
    refine wpAny_pure ?_
    have I2 := I₁.toks (s₁.toks + 1 + 1)
    refine slice_list (s := { s₁ with toks := s₁.toks + 1 + 1 }) (lo := none) (hi := some (-(1 : Nat))) I2.fr I2.allNews (isL hg) .none (.int _ _) (fun h' fr N => ?_) rfl (hlt _) (by rw [List.size_toArray, hv.length, sizeLine_eq]; omega)
    have up := kept_new (s := { s₁ with toks := s₁.toks + 1 + 1 }) (l := [(s₁.heap.objs.size + 1, { cls := .type "list", data := .seq (slicePick (List.toArray vs) none (some (-(1 : Nat))) none) })]) I2 fr N
    have hh := N (s₁.heap.objs.size + 1, _) (.head _)
    have f1 : s₁.heap.get? (s₁.heap.objs.size + 1) = none := by
      cases e : s₁.heap.get? (s₁.heap.objs.size + 1) with
      | none => rfl
      | some o => exact absurd (Heap.lt_size e) (Nat.not_lt.mpr (Nat.le_succ _))
    have st : Stp F.L s₁.heap as₁ h' (as₁ ++ [s₁.heap.objs.size + 1]) := ⟨fun b o e _ nl => up b o e nl, List.prefix_append _ _, fun a ha n => by
      rcases List.mem_append.mp ha with q | q
      · exact absurd q n
      · rw [List.mem_singleton.mp q]; exact f1, I₁.ns⟩
    have e1 : slicePick (List.toArray vs) none (some (-(1 : Nat))) none = (vs.take (vs.length - 1)).toArray := slicePick_butLast (List.toArray vs) 1 (Nat.le_refl _)
    obtain ⟨I', S'⟩ := I₁.new (s' := { s₁ with heap := h', toks := s₁.toks + 1 + 1 }) (c := .list (l.take (l.length - 1))) up fr f1 (Ne.symm hh.2.1) ⟨vs.take (vs.length - 1), 0, by rw [← e1]; exact hh.1, by rw [hv.length]; exact (hv.stp st).take _⟩ rfl rfl
    exact ⟨_, _, _, I', S₁.trans S', VR.last I₁.len, q⟩)

/-- l[k] counted from behind -/
theorem Op2.listNeg {e i : Expr} {l : List PV} {k : Int} {r : Nat} {p : PV} (hr : σ[r]? = some (.list l)) (h0 : k < 0) (h1 : -(l.length : Int) ≤ k) (hp : l[(k + l.length).toNat]? = some p) (h : Q p σ) (h2 : -2 ^ 63 ≤ k := by decide)
    (hs : ∀ v u : Value, subscripted i false v u = operate [v, u] (getItem v u) := by intro _ _; rfl) : Op2 G F σ (.ref r) (.int k) (subscriptTail e i) Q := fun m as s v u I V U => by
  obtain ⟨a, ha, rfl⟩ := V.eRef
  obtain ⟨_, rfl⟩ := U.eInt
  obtain ⟨vs, n, hg, hv⟩ := I.cr r a _ ha hr
  obtain ⟨x, hx, Vx⟩ := hv.get hp
  refine tail_any (isL hg).typeIs slot_list_getitem.lookup (wpAny_getItem_list_neg (isL hg) h0 (by rw [List.size_toArray, hv.length]; exact h1) h2 (x := x) ?_ (PE.ret I rfl Vx h)) (hs _ _)
  rw [List.size_toArray, hv.length]
  simpa using hx

theorem Op2.lstAt {e i : Expr} {l : List PV} {k : Int} {p : PV} (h0 : 0 ≤ k) (hp : l[k.toNat]? = some p) (h : Q p σ) (h2 : k < 2 ^ 63 := by decide)
    (hs : ∀ v u : Value, subscripted i false v u = operate [v, u] (getItem v u) := by intro _ _; rfl) : Op2 G F σ (.lst l) (.int k) (subscriptTail e i) Q := fun m as s v u I V U => by
  obtain ⟨a, vs, rfl, na, hl, hv⟩ := V.eLst
  obtain ⟨_, rfl⟩ := U.eInt
  obtain ⟨x, hx, Vx⟩ := hv.get hp
  exact tail_any hl.typeIs slot_list_getitem.lookup (wpAny_getItem_list hl h0 h2 (by simpa using hx) (PE.ret I rfl Vx h)) (hs _ _)
theorem OpN.extend {i j : Nat} {l k : List PV} (hi : σ[i]? = some (.list l)) (hj : σ[j]? = some (.list k)) (hl : l.length + k.length ≤ 1000) (h : Q .none (σ.set i (.list (l ++ k)))) : OpN G F σ [.ref i, .ref j] (fun vs => PySem.call (.builtin "list.extend") vs) Q := fun m as s vs I V => by
  obtain ⟨v, u, rfl, hv, hu⟩ := V.two
  obtain ⟨a, ha, rfl⟩ := hv.eRef; obtain ⟨b, hb, rfl⟩ := hu.eRef
  obtain ⟨ws, n, hg, hw⟩ := I.cr i a _ ha hi; obtain ⟨us, n', hg', hus⟩ := I.cr j b _ hb hj
  refine call_meets PySem.F.slot_list_extend ⟨_, hg, rfl⟩ PySem.F.entry_list_extend (PySem.F.args_list_extend_2 _ _) (AutoSeq1.list_extend_list_list_0 a (List.toArray ws) n b (List.toArray us) n' ?_ (by rw [List.size_toArray, hw.length, sizeLine_eq]; omega) (by rw [List.size_toArray, List.size_toArray, hw.length, hus.length, sizeLine_eq]; omega)) ⟨hg, hg', ?_⟩
  · exact extend_door (by rw [List.size_toArray, List.size_toArray, hw.length, hus.length, sizeLine_eq]; omega)
  have hs : Heap.SameBut a s.heap (s.heap.update a (Obj.mapSeq fun x => x ++ List.toArray us)) := Heap.SameBut.update ..
  have st := I.stpBut ha hs
  have hq : ∃ n'', (s.heap.update a (Obj.mapSeq fun x => x ++ List.toArray us)).get? a = some (W.listOf (ws ++ us).toArray n'') := by
    have q := PySem.IsL.update hg (fun x => x ++ List.toArray us)
    have e1 : List.toArray ws ++ List.toArray us = (ws ++ us).toArray := by simp
    rw [e1] at q
    exact ⟨_, q⟩
  obtain ⟨n'', hq⟩ := hq
  obtain ⟨I', S'⟩ := I.setBut (s' := { s with heap := s.heap.update a (Obj.mapSeq fun x => x ++ List.toArray us) }) (c := .list (l ++ k)) ha hs ⟨_, n'', hq, (hw.stp st).append (hus.stp st)⟩ rfl rfl
  exact ⟨.none, _, as, I', S', VR.none, h⟩

theorem OpN.max {n : Nat} (O : F.Ok G n) {a b : Int} (h : Q (.int (if b > a then b else a)) σ) : OpN G F σ [.int a, .int b] (fun vs => PySem.call (.builtin "max") vs) Q := fun m as s vs I V => by
  obtain ⟨v, u, rfl, hv, hu⟩ := V.two
  obtain ⟨_, rfl⟩ := hv.eInt; obtain ⟨_, rfl⟩ := hu.eInt
  refine max_two_N O.hh I.fr I.allNews fun h' tk fr N => ?_
  have up := kept_new (l := []) I fr N
  obtain ⟨I', S'⟩ := I.grow (s' := { s with heap := h', toks := tk }) up fr rfl rfl
  exact ⟨_, σ, as, I', S', VR.int, h⟩

/-- a value of the top -/
theorem WPE.gname {n : Nat} (O : F.Ok G n) {x : Str} {pos : Pos} {v : Value} {p : PV} (hx : env.kindOf x = some .globalImplicit) (e : nsIn G.K mainGlobals x = some (some v)) (hv : ∀ m as s, Inv G F m as σ s → VR s.heap as p v) (h : Q p σ) (hd : (x == ("__debug__" : Str)) = false := by decide) : WPE G F env ρ σ (.Name x pos) Q := fun m as s I R =>
  name_top O I R hx e (PE.ret I rfl (hv m as s I) h) hd
theorem VR.top {n : Nat} (O : F.Ok G n) (I : Inv G F m as σ s) {a : Addr} {l : List PV} {vs : List Value} {k : Nat} {d : Option Addr} {sl : Array (Option Value)} (ho : G.K.lookup a = some ⟨.type "tuple", d, .seq (List.toArray vs) k, sl⟩) (hv : VRs s.heap as l vs) : VR s.heap as (.tup l) (.ref a) := by
  rw [VR]
  refine ⟨a, vs, rfl, fun q => ?_, ⟨_, I.fr.keep _ _ (O.X _ _ ho), rfl, _, rfl⟩, hv⟩
  have := (I.sep a q).2
  rw [O.X _ _ ho] at this; cases this
theorem VRs.strs : ∀ {h as} {l : List (Str × Tok)}, VRs h as (l.map fun x => .str x.1) (l.map fun x => .str x.1 x.2)
  | _, _, [] => .nil
  | _, _, x :: l => .cons (by rw [VR]; exact ⟨_, rfl⟩) VRs.strs
theorem kof {S : Scope} {x : Str} {k : NameKind} (hs : env.scope = S) (e : S.names.lookup x = some k) : env.kindOf x = some k := by unfold Env.kindOf; rw [hs]; exact e
end


theorem cellsFrom_some : ∀ {names : List (Str × NameKind)} {n : Nat} {acc : List (Str × Addr)} {x : Str}, ((x, NameKind.cell) ∈ names ∨ (acc.lookup x).isSome = true) → ((cellsFrom n names acc).lookup x).isSome = true
  | [], _, _, _, h => h.elim (fun z => by cases z) id
  | (y, k) :: r, n, acc, x, h => by
    unfold cellsFrom
    by_cases hk : k = .cell
    · subst hk
      rw [if_pos (by rfl)]
      refine cellsFrom_some ?_
      by_cases q : x = y
      · subst q; right; rw [List.lookup_cons]; simp
      · rcases h with h | h
        · left
          rcases List.mem_cons.mp h with z | z
          · exact absurd (by cases z; rfl) q
          · exact z
        · right; rw [List.lookup_cons, show (x == y) = false from by simpa using q]; exact h
    · rw [if_neg (by simpa using hk)]
      refine cellsFrom_some ?_
      rcases h with h | h
      · left
        rcases List.mem_cons.mp h with z | z
        · cases z; exact absurd rfl hk
        · exact z
      · exact .inr h
theorem cellsFrom_ge : ∀ {names : List (Str × NameKind)} {n : Nat} {acc : List (Str × Addr)} {p : Str × Addr}, p ∈ cellsFrom n names acc → n ≤ p.2 ∨ p ∈ acc
  | [], _, _, _, h => .inr h
  | (y, k) :: r, n, acc, p, h => by
    unfold cellsFrom at h
    split at h
    · rcases cellsFrom_ge h with q | q
      · exact .inl (Nat.le_of_succ_le q)
      · rcases List.mem_cons.mp q with z | z
        · subst z; exact .inl (Nat.le_refl _)
        · exact .inr z
    · exact cellsFrom_ge h
theorem CellsAre.get {cm : Str → Option Value} : ∀ {cs : List (Str × Addr)} {cells : List (Addr × Obj)}, CellsAre cm cs cells → ∀ {x : Str} {c : Addr}, (x, c) ∈ cs → ∃ o, (c, o) ∈ cells ∧ o.data = .cell (cm x)
  | _, _, .nil, _, _, h => by cases h
  | _, _, .cons e r, x, c, h => by
    rcases List.mem_cons.mp h with z | z
    · cases z; exact ⟨_, .head _, e⟩
    · obtain ⟨o, ho, hd⟩ := CellsAre.get r z
      exact ⟨o, .tail _ ho, hd⟩
theorem bindL_keep {kindOf : Str → Option NameKind} : ∀ {binds : List (Str × Value)} {m : Str → Option Value} {x : Str}, (∀ p ∈ binds, p.1 ≠ x) → bindL kindOf binds m x = m x
  | [], _, _, _ => rfl
  | (y, v) :: r, m, x, h => by
    unfold bindL
    rw [bindL_keep fun p hp => h p (.tail _ hp)]
    have hy := h (y, v) (.head _)
    split
    · exact if_neg (Ne.symm hy)
    · rfl
theorem bindL_get {kindOf : Str → Option NameKind} : ∀ {binds : List (Str × Value)} {m : Str → Option Value} {x : Str} {v : Value}, (binds.map (·.1)).Nodup → binds.lookup x = some v → kindOf x = some .local → bindL kindOf binds m x = some v
  | [], _, _, _, _, e, _ => by simp at e
  | (y, u) :: r, m, x, v, nd, e, hk => by
    rw [List.map_cons, List.nodup_cons] at nd
    unfold bindL
    rw [List.lookup_cons] at e
    by_cases q : x = y
    · subst q
      simp at e; subst e
      rw [bindL_keep fun p hp z => nd.1 (List.mem_map.mpr ⟨p, hp, z⟩), if_pos hk]
      exact if_pos rfl
    · rw [show (x == y) = false from by simpa using q] at e
      exact bindL_get nd.2 e hk
theorem bindC_keep {kindOf : Str → Option NameKind} : ∀ {binds : List (Str × Value)} {m : Str → Option Value} {x : Str}, (∀ p ∈ binds, p.1 ≠ x) → bindC kindOf binds m x = m x
  | [], _, _, _ => rfl
  | (y, v) :: r, m, x, h => by
    unfold bindC
    rw [bindC_keep fun p hp => h p (.tail _ hp)]
    have hy := h (y, v) (.head _)
    split
    · rfl
    · exact if_neg (Ne.symm hy)
theorem bindC_get {kindOf : Str → Option NameKind} : ∀ {binds : List (Str × Value)} {m : Str → Option Value} {x : Str} {v : Value}, (binds.map (·.1)).Nodup → binds.lookup x = some v → kindOf x ≠ some .local → bindC kindOf binds m x = some v
  | [], _, _, _, _, e, _ => by simp at e
  | (y, u) :: r, m, x, v, nd, e, hk => by
    rw [List.map_cons, List.nodup_cons] at nd
    unfold bindC
    rw [List.lookup_cons] at e
    by_cases q : x = y
    · subst q
      simp at e; subst e
      rw [bindC_keep fun p hp z => nd.1 (List.mem_map.mpr ⟨p, hp, z⟩), if_neg hk]
      exact if_pos rfl
    · rw [show (x == y) = false from by simpa using q] at e
      exact bindC_get nd.2 e hk

/-- the code of a def whose names are captured -/
theorem def_codeC {G : GX} {F : FX} {n : Nat} (O : F.Ok G (n + 1)) {A : Around} (hA : A.frames = some (F.env :: F.outer)) (hAh : A.handled = none) (hAd : A.depth ≤ F.A.depth + 2) (hAu : A.units ≤ F.A.units + 6)
    {f : Addr} {name qual : Str} {params : Arguments} {body : List Stmt} {scope : Scope} {dV kV doc pm cdv ct oc : Value} {an od : Option Addr} {osl : Array (Option Value)} {xs : List Str} {ps : List PV} {σ : List Cell} {Q : PV → List Cell → Prop}
    (ho : G.K.lookup f = some ⟨oc, od, .func (fnOf name qual params body scope dV kV doc pm an cdv ct), osl⟩) (hcd : codeIn G.K cdv qual = true)
    {m as s} {vs : List Value} (I : Inv G F m as σ s) (V : VRs s.heap as ps vs) (hbind : BindsTo s (fnOf name qual params body scope dV kV doc pm an cdv ct) ⟨vs, []⟩ (xs.zip vs))
    (hnd : xs.Nodup) (hloc : ∀ x ∈ xs, scope.names.lookup x = some .local ∨ scope.names.lookup x = some .cell) (hcn : ((cellsFrom 0 scope.names []).map (·.1)).Nodup)
    (hbody : ∀ F' : FX, F'.Ok G n → F'.env.scope = scope → (∀ x, scope.names.lookup x = some .cell → (F'.env.cells.lookup x).isSome = true) → WPS G F' (xs.zip ps) σ body (fun _ σ' => Q .none σ') Q)
    (hco : scope.isCoroutine = false) (hgen : scope.isGenerator = false) (hk : scope.kind = .function)
    {R : Result → Shared → Prop} (hR : ∀ v s', PE G F m as s.heap Q v s' → R (.ok (.ret v)) s') : codeAny (model G.prog G.w) A (.call (.ref f) ⟨vs, []⟩) R s := by
  refine code_defC O.B I.fr O.X I.allNews O.T hA O.ef O.ek ho hcd (by have := O.hd; show A.depth < 1000; omega) hbind ?_ hcn (fun g L' h₁ tk cells FG FL N' Y B' X' T' lo => ?_) hco hgen hk
  · rw [List.all_eq_true]
    intro y hy
    rcases hloc _ (List.of_mem_zip hy).1 with h | h <;> rw [h] <;> rfl
  let F' : FX := { A₀ := A, A := A.deeper (envOfC qual scope L' f cdv), base := F.base, h₀ := g, outer := F.env :: F.outer, env := envOfC qual scope L' f cdv, L := L', gens := F.gens, os := F.os }
  have O' : F'.Ok G n := ⟨B', X', T', Around.frames_deeper hA, rfl, hk, rfl, hAh, by have := O.hd; show A.depth + 1 + 4 * n ≤ 600; omega, by have := O.hu; show A.units + 3 + 12 * n ≤ 6000; omega⟩
  have up : ∀ b o, s.heap.get? b = some o → b ≠ F.L → h₁.get? b = some o := fun b o e nl => by
    cases q : F.h₀.get? b with
    | some o' =>
      have h1 := I.fr.keep b o' q
      rw [e] at h1; cases h1
      exact FL.keep b o (FG.keep b o q)
    | none => exact (N' (b, o) (List.mem_append.mpr (.inr (allNews_iff.mpr ⟨e, nl, q⟩)))).1
  have below : ∀ b o, s.heap.get? b = some o → b ≠ F.L → b < L' := fun b o e nl => by
    cases q : F.h₀.get? b with
    | some o' =>
      exact Nat.lt_of_lt_of_le (Heap.lt_size (FG.keep b o' q)) FL.above
    | none => exact lo (b, o) (allNews_iff.mpr ⟨e, nl, q⟩)
  have st : Stp F.L s.heap as h₁ as := ⟨fun b o e _ nl => up b o e nl, List.prefix_refl _, fun _ x y => absurd x y, I.ns⟩
  let s₁ : Shared := { s with heap := h₁, toks := tk }
  have I₁ : Inv G F' (bindL (envOfC qual scope L' f cdv).kindOf (xs.zip vs) fun _ => none) as σ s₁ := ⟨FL, I.nd, I.len, fun a ha => by
      obtain ⟨o, e⟩ := I.live ha
      have hs := I.sep a ha
      exact (N' (a, o) (List.mem_append.mpr (.inr (allNews_iff.mpr ⟨e, hs.1, hs.2⟩)))).2, fun i a c h1 h2 => (I.cr i a c h1 h2).stp st fun o e => up a o e (I.sep a (List.mem_of_getElem? h1)).1, I.gens, I.os⟩
  have nd : ((xs.zip vs).map (·.1)).Nodup := nodup_zip hnd
  have R₁ : ER F'.L (bindL (envOfC qual scope L' f cdv).kindOf (xs.zip vs) fun _ => none) F'.env s₁.heap as (xs.zip ps) := ⟨hk, rfl, rfl, fun x p e => by
    obtain ⟨v, hv, Vv⟩ := lookup_zip V e
    have hx := (List.of_mem_zip (lookup_mem hv)).1
    refine ⟨v, ?_, Vv.stp st⟩
    rcases hloc x hx with h | h
    · exact .own rfl h (bindL_get nd hv h)
    · obtain ⟨c, hc⟩ := Option.isSome_iff_exists.mp (cellsFrom_some (n := L' + 1) (acc := []) (.inl (lookup_mem h)))
      obtain ⟨o, ho, hd⟩ := CellsAre.get Y (lookup_mem hc)
      rw [bindC_get nd hv (by rw [show (envOfC qual scope L' f cdv).kindOf x = scope.names.lookup x from rfl, h]; intro z; cases z)] at hd
      refine .cell c o h hc (N' (c, o) (List.mem_append.mpr (.inl ho))).1 hd fun q => ?_
      have h1 := (cellsFrom_ge (lookup_mem hc)).elim id fun z => by cases z
      obtain ⟨o', e'⟩ := I.live q
      have h2 := below c o' e' (I.sep c q).1
      exact absurd h2 (Nat.not_lt.mpr (Nat.le_of_succ_le h1))⟩
  refine wpm (hbody F' O' rfl (fun x hx => cellsFrom_some (.inl (lookup_mem hx))) _ as s₁ I₁ R₁) fun fl s' H => ?_
  obtain ⟨m', σ', as', I', S', q⟩ := H
  have fin : ∀ (pv : PV) (v : Value), VR s'.heap as' pv v → Q pv σ' → LeaveK F.h₀ F.L m g R v s' := fun pv v Vv q => by
    refine leaveK_ I'.fr I'.news fun Fr' N₂ => hR _ _ ⟨pv, σ', as', ⟨Fr', I'.nd, I'.len, fun a ha => ?_, I'.cr, I'.gens, I'.os⟩, ⟨fun b o e n nl => ?_, S'.pre, fun a ha n => ?_, I.ns⟩, Vv, q⟩
    · obtain ⟨o, e⟩ := I'.live ha
      exact (N₂ (a, o) (newsOf_iff.mpr ⟨ha, e⟩)).2
    · exact S'.keep b o (up b o e nl) n (Nat.ne_of_lt (below b o e nl))
    · cases e : s.heap.get? a with
      | none => rfl
      | some o =>
        obtain ⟨o', e'⟩ := I'.live ha
        have hL : a ≠ F.L := (N₂ (a, o') (newsOf_iff.mpr ⟨ha, e'⟩)).2.1
        have := S'.fresh a ha n; rw [show s₁.heap = h₁ from rfl, up a o e hL] at this; cases this
  cases fl with
  | next => obtain ⟨ρ', _, q⟩ := q; exact fin .none .none (by rw [VR]) q
  | ret v => obtain ⟨pv, Vv, q⟩ := q; exact fin pv v Vv q
  | brk => exact q.elim
  | cont => exact q.elim

theorem Cl.defC {G : GX} {n : Nat} {f : Addr} {name qual : Str} {params : Arguments} {body : List Stmt} {scope : Scope} {dV kV doc pm cdv ct oc : Value} {an od : Option Addr} {osl : Array (Option Value)} {ps : List PV} {σ : List Cell} {Q : PV → List Cell → Prop} (xs : List Str)
    (ho : G.K.lookup f = some ⟨oc, od, .func (fnOf name qual params body scope dV kV doc pm an cdv ct), osl⟩) (hcd : codeIn G.K cdv qual = true)
    (hbind : ∀ (s : Shared) (vs : List Value), G.K.In s.heap → vs.length = ps.length → BindsTo s (fnOf name qual params body scope dV kV doc pm an cdv ct) ⟨vs, []⟩ (xs.zip vs))
    (hnd : xs.Nodup) (hloc : ∀ x ∈ xs, scope.names.lookup x = some .local ∨ scope.names.lookup x = some .cell) (hcn : ((cellsFrom 0 scope.names []).map (·.1)).Nodup)
    (hbody : ∀ F' : FX, F'.Ok G n → F'.env.scope = scope → (∀ x, scope.names.lookup x = some .cell → (F'.env.cells.lookup x).isSome = true) → WPS G F' (xs.zip ps) σ body (fun _ σ' => Q .none σ') Q)
    (hco : scope.isCoroutine = false := by rfl) (hgen : scope.isGenerator = false := by rfl) (hk : scope.kind = .function := by rfl) : Cl G (n + 1) f ps σ Q := by
  intro F O A hA hAh hAd hAu m as s vs I V R hR
  exact def_codeC (ps := ps) O hA hAh hAd hAu ho hcd I V (hbind s vs (O.X.keeps I.fr.keep) V.length) hnd hloc hcn hbody hco hgen hk hR
theorem freeOk {S scope : Scope} {cells : List (Str × Addr)} (hc : ∀ x, S.names.lookup x = some .cell → (cells.lookup x).isSome = true) (h : (scope.names.all fun x => x.2 != .free || S.names.lookup x.1 == some .cell) = true) :
    ∀ x ∈ scope.names, x.2 = .free → (cells.lookup x.1).isSome = true := fun x hx hf => by
  rw [List.all_eq_true] at h
  have := h x hx
  rw [hf] at this
  exact hc x.1 (by simpa using this)

section
variable {G : GX} {F : FX} {env : Env} {ρ ρ' : PEnv} {σ : List Cell}
theorem set_last {σ : List Cell} {c d : Cell} : (σ ++ [c]).set σ.length d = σ ++ [d] := by simp
theorem getNew' {σ : List Cell} {c : Cell} : (σ ++ [c])[σ.length]? = some c := by simp
theorem get_app {σ τ : List Cell} {i : Nat} {c : Cell} (h : σ[i]? = some c) : (σ ++ τ)[i]? = some c := by
  rw [List.getElem?_append_left (List.getElem?_eq_some_iff.mp h).1]; exact h
theorem take_next {l : List PV} {k : Nat} {p : PV} (e : l[k]? = some p) : l.take (k + 1) = l.take k ++ [p] := by
  rw [List.take_add_one, e]; rfl

/-- what a comprehension of plain elements needs -/
noncomputable def PureC (G : GX) (F : FX) (ρc : PEnv) (scope : Scope) (y : Str) (elt : Expr) (f : PV → PV) (ps : List PV) (ok : List Cell → Prop) (σ₁ : List Cell) : Prop :=
  ps.length ≤ 1000 ∧ (∀ l, ok (σ₁ ++ [.list l])) ∧ (∀ cenv, CompEnv F scope cenv → ∀ p ∈ ps, ∀ l, WPE G F cenv ((y, p) :: ρc) (σ₁ ++ [.list l]) elt fun q σ'' => q = f p ∧ σ'' = σ₁ ++ [.list l])
theorem pure_turns {ρc : PEnv} {scope : Scope} {y : Str} {py : Pos} {elt : Expr} {f : PV → PV} {ps : List PV} {ok : List Cell → Prop} {σ₁ : List Cell} (hy : scope.names.lookup y = some .local) (hyc : ρc.lookup y = none) (h : PureC G F ρc scope y elt f ps ok σ₁) :
    ∃ J : Nat → List Cell → Prop, J 0 (σ₁ ++ [.list []]) ∧ (∀ k σ', J k σ' → ok σ') ∧ (∀ cenv, CompEnv F scope cenv → Turns G F cenv ρc (.Name y py) [] ps J (outElt G F cenv σ₁.length elt)) ∧ (∀ σ', J ps.length σ' → σ' = σ₁ ++ [.list (ps.map f)]) := by
  obtain ⟨h1, h2, h3⟩ := h
  refine ⟨fun k σ' => σ' = σ₁ ++ [.list ((ps.take k).map f)], rfl, fun k σ' e => e ▸ h2 _, fun cenv ce k p σ' e j => ?_, fun σ' e => by rw [e, List.take_length]⟩
  subst j
  refine WPA.cname ce.nL (ce.kind _ _ hy (by intro z; cases z)) ⟨fun x q e => ?_, fun _ => ?_, fun z => by cases z⟩
  · rw [List.lookup_cons]
    by_cases q' : x = y
    · subst q'; rw [hyc] at e; cases e
    · rw [show (x == y) = false from by simpa using q']; exact e
  · refine (h3 cenv ce p (List.mem_of_getElem? e) _).mono fun q σ'' H => ?_
    obtain ⟨rfl, rfl⟩ := H
    refine ⟨(ps.take k).map f, getNew', ?_, ?_⟩
    · rw [List.length_map]; exact Nat.le_trans (List.length_take_le' ..) h1
    · show (σ₁ ++ [_]).set σ₁.length _ = _
      rw [set_last, take_next e, List.map_append]; rfl
theorem WPI.mono {iter : Expr} {K K' : List PV → (List Cell → Prop) → List Cell → Prop} (h : WPI G F env ρ σ iter K) (k : ∀ ps ok σ', K ps ok σ' → K' ps ok σ') : WPI G F env ρ σ iter K' := fun m as s I R =>
  wpm (h m as s I R) fun x s₁ H => wpm H fun it s₂ H => by
    obtain ⟨a, σ₁, as₁, ps, C, ok, e1, e2, e3, e4, e5, e6, e7, e8, e9⟩ := H
    exact ⟨a, σ₁, as₁, ps, C, ok, e1, e2, e3, e4, e5, e6, e7, e8, k _ _ _ e9⟩
theorem WPE.compPure {n : Nat} (O : F.Ok G n) {elt iter : Expr} {y : Str} {py : Pos} {scope : Scope} {pos : Pos} (ρc : PEnv) (f : PV → PV) {Q : PV → List Cell → Prop}
    (h : WPI G F F.env ρ σ iter fun ps ok σ₁ => PureC G F ρc scope y elt f ps ok σ₁ ∧ Q (.ref σ₁.length) (σ₁ ++ [.list (ps.map f)])) (hy : scope.names.lookup y = some .local) (hyc : ρc.lookup y = none)
    (hρ : ∀ x p, ρc.lookup x = some p → ρ.lookup x = some p ∧ scope.names.lookup x = some .free ∧ F.env.kindOf x ≠ some .local)
    (hfree : ∀ x ∈ scope.names, x.2 = .free → (F.env.cells.lookup x.1).isSome = true) (hcell : ∀ x ∈ scope.names, x.2 ≠ .cell := by decide) (hkind : scope.kind = .function := by rfl) (hnames : ∀ x ∈ scope.names, x.2 = .local → scope.names.lookup x.1 = some .local := by decide)
    (hs : ∀ x, foldedSetIterable iter F.env x = pure x := by intro _; rfl) : WPE G F F.env ρ σ (.ListComp elt [⟨.Name y py, iter, [], 0⟩] scope pos) Q :=
  WPE.comp O ρc (h.mono fun ps ok σ₁ H => by
    obtain ⟨J, j0, jok, jt, je⟩ := pure_turns (py := py) hy hyc H.1
    exact ⟨J, j0, jok, jt, fun σ' j => by rw [je σ' j]; exact H.2⟩) hρ hfree hcell hkind hnames hs
theorem WPX.compPure {n : Nat} (O : F.Ok G n) {z : Str} {pz spos : Pos} {elt iter : Expr} {y : Str} {py : Pos} {scope : Scope} {pos : Pos} (ρc : PEnv) (f : PV → PV) {N : PEnv → List Cell → Prop} {Rt : PV → List Cell → Prop} (hz : F.env.kindOf z = some .local)
    (h : WPI G F F.env ρ σ iter fun ps ok σ₁ => PureC G F ρc scope y elt f ps ok σ₁ ∧ N ((z, .ref σ₁.length) :: ρ) (σ₁ ++ [.list (ps.map f)])) (hy : scope.names.lookup y = some .local) (hyc : ρc.lookup y = none)
    (hρ : ∀ x p, ρc.lookup x = some p → ρ.lookup x = some p ∧ scope.names.lookup x = some .free ∧ F.env.kindOf x ≠ some .local)
    (hfree : ∀ x ∈ scope.names, x.2 = .free → (F.env.cells.lookup x.1).isSome = true)
    (hsw : (pz.line == pos.line && !(scope.names.any fun (n, k) => n == z && (k == .local || k == .cell))) = true := by rfl)
    (hcell : ∀ x ∈ scope.names, x.2 ≠ .cell := by decide) (hkind : scope.kind = .function := by rfl) (hnames : ∀ x ∈ scope.names, x.2 = .local → scope.names.lookup x.1 = some .local := by decide)
    (hs : ∀ x, foldedSetIterable iter F.env x = pure x := by intro _; rfl) : WPX G F ρ σ (.Assign [.Name z pz] (.ListComp elt [⟨.Name y py, iter, [], 0⟩] scope pos) spos) N Rt :=
  WPX.comp O ρc hz (h.mono fun ps ok σ₁ H => by
    obtain ⟨J, j0, jok, jt, je⟩ := pure_turns (py := py) hy hyc H.1
    exact ⟨J, j0, jok, jt, fun σ' j => by rw [je σ' j]; exact H.2⟩) hρ hfree hsw hcell hkind hnames hs
end

noncomputable def Sub (ρ ρ' : PEnv) : Prop := ∀ x p, ρ.lookup x = some p → ρ'.lookup x = some p
theorem Sub.refl {ρ : PEnv} : Sub ρ ρ := fun _ _ e => e
theorem Sub.trans {ρ ρ' ρ'' : PEnv} (a : Sub ρ ρ') (b : Sub ρ' ρ'') : Sub ρ ρ'' := fun x p e => b x p (a x p e)
theorem Sub.cons {ρ ρ' : PEnv} {y : Str} {q : PV} (h : ρ.lookup y = none) (s : Sub ρ ρ') : Sub ρ ((y, q) :: ρ') := fun x p e => by
  rw [List.lookup_cons]
  by_cases z : x = y
  · subst z; rw [h] at e; cases e
  · rw [show (x == y) = false from by simpa using z]; exact s x p e
section
variable {G : GX} {F : FX} {env : Env} {ρ ρ' : PEnv} {σ : List Cell} {N : PEnv → List Cell → Prop} {Rt : PV → List Cell → Prop}
theorem WPX.weak {st : Stmt} (h : WPX G F ρ σ st (fun ρ' σ' => ∃ ρ₀, Sub ρ₀ ρ' ∧ N ρ₀ σ') Rt) : WPX G F ρ σ st N Rt := fun m as s I R =>
  wpm (h m as s I R) fun fl s₁ H => by
    obtain ⟨m', σ', as', I', S', q⟩ := H
    refine ⟨m', σ', as', I', S', ?_⟩
    cases fl with
    | next => obtain ⟨ρ', R', ρ₀, sb, q⟩ := q; exact ⟨ρ₀, R'.sub sb, q⟩
    | ret v => exact q
    | brk => exact q
    | cont => exact q
/-- a loop that leaves the names ahead of it as they were -/
theorem WPX.forS {n : Nat} (O : F.Ok G n) {target iter : Expr} {body : List Stmt} {pos : Pos}
    (h : WPI G F F.env ρ σ iter fun ps ok σ₁ => ∃ J : Nat → List Cell → Prop, J 0 σ₁ ∧ (∀ k σ', J k σ' → ok σ') ∧
      (∀ k p σ', ps[k]? = some p → J k σ' → WPA G F F.env ρ σ' target p fun ρ'' => WPS G F ρ'' σ' body (fun ρ₂ σ₂ => Sub ρ ρ₂ ∧ J (k + 1) σ₂) Rt) ∧ (∀ σ', J ps.length σ' → N ρ σ'))
    (hs : ∀ x, foldedSetIterable iter F.env x = pure x := by intro _; rfl) : WPX G F ρ σ (.For target iter body [] pos) N Rt :=
  WPX.weak (WPX.for O (h.mono fun ps ok σ₁ H => by
    obtain ⟨J, j0, jok, jt, jn⟩ := H
    refine ⟨fun k ρ' σ' => Sub ρ ρ' ∧ J k σ', ⟨Sub.refl, j0⟩, fun k ρ' σ' j => jok k σ' j.2, fun k p ρ' σ' e j => ?_, fun ρ' σ' j => ⟨ρ, j.1, jn σ' j.2⟩⟩
    exact fun m as s v I R eo V => jt k p σ' e j.2 m as s v I (R.sub j.1) eo V) hs)
theorem WPX.whileS {test : Expr} {body : List Stmt} {pos : Pos} (J : Nat → List Cell → Prop) (n : Nat) (h0 : J n σ)
    (h : ∀ k σ', J k σ' → WPB G F F.env ρ σ' test fun c σ₁ => (c = true → WPS G F ρ σ₁ body (fun ρ₂ σ₂ => Sub ρ ρ₂ ∧ ∃ j, j < k ∧ J j σ₂) Rt) ∧ (c = false → N ρ σ₁)) : WPX G F ρ σ (.While test body [] pos) N Rt :=
  WPX.weak (WPX.while (fun k ρ' σ' => Sub ρ ρ' ∧ J k σ') n ⟨Sub.refl, h0⟩ fun k ρ' σ' j m as s I R =>
    wpm (h k σ' j.2 m as s I (R.sub j.1)) fun c s₁ H => by
      obtain ⟨σ₁, as₁, I₁, S₁, q₁⟩ := H
      refine ⟨σ₁, as₁, I₁, S₁, fun e m' as' s' I' R' => ?_, fun e => ⟨ρ, j.1, q₁.2 e⟩⟩
      refine wpm (q₁.1 e m' as' s' I' (R'.sub j.1)) fun fl s₂ H => ?_
      obtain ⟨m₂, σ₂, as₂, I₂, S₂, q₂⟩ := H
      refine ⟨m₂, σ₂, as₂, I₂, S₂, ?_⟩
      cases fl with
      | next => obtain ⟨ρ₂, R₂, sb, i, hi, ji⟩ := q₂; exact ⟨ρ₂, R₂, i, hi, sb, ji⟩
      | ret v => exact q₂
      | brk => exact q₂
      | cont => exact q₂)
end

section
variable {G : GX} {F : FX} {env : Env} {ρ ρ₀ : PEnv} {σ : List Cell}

/-- a comprehension of two loops: the inner one is begun -/
theorem start_inner {A : Around} {prog : Program} {w : World} {R : Result → Shared → Prop} {s : Shared} {elt target iter target' iter' : Expr} {ifs ifs' : List Expr} {scope : Scope} {pos : Pos} {it acc : Value} {env : Env}
    (h0 : codeAny (model prog w) A (.compLoop (.ListComp elt [⟨target, iter, ifs, 0⟩, ⟨target', iter', ifs', 0⟩] scope pos) 1 it acc env) R s)
    (h : wpAny (model prog w) A (pyIter it) (fun it' s' => codeAny (model prog w) A (.compLoop (.ListComp elt [⟨target, iter, ifs, 0⟩, ⟨target', iter', ifs', 0⟩] scope pos) 1 it' acc env) R s') (notedBy (model prog w) A env fun x s' => R (.error x) s') s) :
    codeAny (model prog w) A (.compStart (.ListComp elt [⟨target, iter, ifs, 0⟩, ⟨target', iter', ifs', 0⟩] scope pos) 1 it acc env) R s := by
  refine codeAny_of_tree ?_
  show wpAny _ _ ((compStart (.ListComp elt [⟨target, iter, ifs, 0⟩, ⟨target', iter', ifs', 0⟩] scope pos) 1 it acc env).onRaise (fun x => do noteFrame x env; standAt theWindowsPlace)) _ _ s
  refine wpAny_notedAt ?_
  unfold compStart
  show wpAny _ _ (ask >>= _) _ _ s
  refine wpAny_bind (wpAny_askSetting (wpAny_ite ?_))
  split
  · exact wpAny_bind (wpAny_pure (wpAny_pure (And.intro rfl h0)))
  · refine wpAny_bind (wpAny_rule ?_)
    show wpAny _ _ (standAt iter'.pos >>= _) _ _ s
    exact wpAny_bind (wpAny_standAt (wpAny_bind (wpAny_mono h (fun it' s' h' => wpAny_pure (And.intro rfl h')) fun _ _ x => x)))

/-- the inner loop, told in the store -/
noncomputable def Inner (G : GX) (F : FX) (env : Env) (i : Nat) (target' iter' : Expr) (ifs' : List Expr) (elt : Expr) : PEnv → List Cell → (List Cell → Prop) → Prop := fun ρ σ K =>
  WPI G F env ρ σ iter' fun ps ok σ₁ => ∃ J : Nat → List Cell → Prop, J 0 σ₁ ∧ (∀ k σ', J k σ' → ok σ') ∧ Turns G F env ρ target' ifs' ps J (outElt G F env i elt) ∧ (∀ σ', J ps.length σ' → K σ')
theorem EM.nest {elt target iter target' iter' : Expr} {ifs ifs' : List Expr} {scope : Scope} {pos : Pos} {i : Nat} {D : Addr} {K : List Cell → Prop} (hl : env.locals ≠ F.L) (h : Inner G F env i target' iter' ifs' elt ρ σ K) (hs : Sub ρ₀ ρ)
    (hfs : ∀ x, foldedSetIterable iter' env x = pure x) :
    EM G F env i D ρ ρ₀ σ (fun k => do
        let x ← eval iter' env
        standAt iter'.pos
        let x ← foldedSetIterable iter' env x
        let _ ← runOwn (.compStart (.ListComp elt [⟨target, iter, ifs, 0⟩, ⟨target', iter', ifs', 0⟩] scope pos) 1 (← holding [x] (pyIter x)) (.ref D) env) env
        k) K := fun m as s h₀ as₀ hD I R eo S nC k Q E hk => by
  refine wpAny_bind (wpm (h m as s I R) fun x s₁ H => wpAny_bind (wpAny_standAt (wpAny_bind (wpAny_of_eq (hfs x) (wpAny_bind (wpAny_holding (wpm H fun it s₂ H => ?_)))))))
  obtain ⟨a, σ₁, as₁, ps, C, ok, rfl, I₁, S₁, cu, c0, na, n0, ok0, J, j0, jok, jt, jn⟩ := H
  refine wpAny_bind (wpAny_runOwn ?_)
  have na0 : h₀.get? a = none := stp_none S n0 cu.nL fun q => na (S₁.mem (S.mem q))
  have loop : codeAny (model G.prog G.w) F.A (.compLoop (.ListComp elt [⟨target, iter, ifs, 0⟩, ⟨target', iter', ifs', 0⟩] scope pos) 1 (.ref a) (.ref D) env) (fun r s' => match r with | .ok f => wpAny (model G.prog G.w) F.A k Q E s' | .error e => cameBackBy (model G.prog G.w) F.A env E e s') s₂ := by
    refine codeAny_mono (comp_loop (i := i) (h₁ := s.heap) (as₁ := as) (emit := fun k => do (do let _ ← PySem.call (.builtin "list.append") [.ref D, ← eval elt env]); k) cu hl (turn_list1 ..) J jok (fun k p σ' e j => (jt.mono fun ρ' σ' K hs h => EM.append h hs) k p σ' e j) I₁ (R.stp S₁) (eo.stp (L := F.L) S₁) (S.trans S₁) nC na0 c0 na j0 (getElem?_of_prefix S₁.pre hD) S₁.toN n0) fun r s' H => ?_
    obtain ⟨rfl, σ', as', I', S', E', R', j', hD', sn⟩ := H
    exact hk s' σ' as' I' S' sn E' (R'.sub hs) (jn _ j')
  exact start_inner loop (cu.self _ _ _ _ _ c0 loop)

/-- x = [elt for target in iter if .. for target' in iter' if ..] -/
theorem WPX.comp2 {n : Nat} (O : F.Ok G n) {y : Str} {py spos : Pos} {elt target iter target' iter' : Expr} {ifs ifs' : List Expr} {scope : Scope} {pos : Pos} (ρc : PEnv) {N : PEnv → List Cell → Prop} {Rt : PV → List Cell → Prop} (hy : F.env.kindOf y = some .local)
    (h : WPI G F F.env ρ σ iter fun ps ok σ₁ => ∃ J : Nat → List Cell → Prop, J 0 (σ₁ ++ [.list []]) ∧ (∀ k σ', J k σ' → ok σ') ∧ (∀ cenv, CompEnv F scope cenv → Turns G F cenv ρc target ifs ps J (Inner G F cenv σ₁.length target' iter' ifs' elt)) ∧ (∀ σ', J ps.length σ' → N ((y, .ref σ₁.length) :: ρ) σ'))
    (hρ : ∀ x p, ρc.lookup x = some p → ρ.lookup x = some p ∧ scope.names.lookup x = some .free ∧ F.env.kindOf x ≠ some .local)
    (hfree : ∀ x ∈ scope.names, x.2 = .free → (F.env.cells.lookup x.1).isSome = true)
    (hsw : (py.line == pos.line && !(scope.names.any fun (n, k) => n == y && (k == .local || k == .cell))) = true := by rfl)
    (hcell : ∀ x ∈ scope.names, x.2 ≠ .cell := by decide) (hkind : scope.kind = .function := by rfl) (hnames : ∀ x ∈ scope.names, x.2 = .local → scope.names.lookup x.1 = some .local := by decide)
    (hs : ∀ x, foldedSetIterable iter F.env x = pure x := by intro _; rfl) (hfs : ∀ env x, foldedSetIterable iter' env x = pure x := by intro _ _; rfl) :
    WPX G F ρ σ (.Assign [.Name y py] (.ListComp elt [⟨target, iter, ifs, 0⟩, ⟨target', iter', ifs', 0⟩] scope pos) spos) N Rt := fun m as s I R => by
  obtain ⟨cl, hclos, hcl⟩ := closure_of hfree
  have hbk : F.env.blockKind = .function := by unfold Env.blockKind; rw [O.ek]; rfl
  rw [exec_Assign_Name_used _ _ _ _ (swaps_of hbk hy hsw)]
  refine wpAny_bind (wpAny_standAt (wpAny_bind ?_))
  show wpAny _ F.A (do let _ ← comprehension (.ListComp elt [⟨target, iter, ifs, 0⟩, ⟨target', iter', ifs', 0⟩] scope pos) scope F.env _ (newList []) false (eval iter F.env) (some (PySem.assign (.Name y py) F.env))) _ _ s
  refine wpAny_bind (wpm (wpAny_comprehension_free (use := some (PySem.assign (.Name y py) F.env)) (Q := fun _ s' => PF G F as s.heap N Rt .next s') rfl hs hclos hkind hnames ?_) fun _ s' hq => wpAny_pure (wpAny_pure hq))
  refine comp_walk O ρc (fun cenv i => Inner G F cenv i target' iter' ifs' elt) (fun env D k => do
        let x ← eval iter' env
        standAt iter'.pos
        let x ← foldedSetIterable iter' env x
        let _ ← runOwn (.compStart (.ListComp elt [⟨target, iter, ifs, 0⟩, ⟨target', iter', ifs', 0⟩] scope pos) 1 (← holding [x] (pyIter x)) (.ref D) env) env
        k) hcl hcell hkind hρ (fun it D env => turn_list0 ..) (fun cenv i D ρ' σ' K ce hs h => EM.nest ce.nL h hs (hfs _)) (K := fun σ' i => N ((y, .ref i) :: ρ) σ') h I R (Q := fun acc C => compPost (model G.prog G.w) F.A NoE (some (PySem.assign (.Name y py) F.env)) (fun _ s' => PF G F as s.heap N Rt .next s') acc C) ?_
  intro C D σ' as' s' i I' S' hD hK nL n0 hns out nC
  exact comp_assign O hy R I' S' hD hK nL n0 hns out nC
end

theorem sorted_eq : ∀ {l l' : List Int}, l.Perm l' → l.Pairwise (fun x y => x ≤ y) → l'.Pairwise (fun x y => x ≤ y) → l = l'
  | [], l', h, _, _ => by rw [List.nil_perm.mp h]
  | a :: l, [], h, _, _ => by have := h.length_eq; simp at this
  | a :: l, b :: l', h, p, p' => by
    rw [List.pairwise_cons] at p p'
    have ha : a ∈ b :: l' := h.mem_iff.mp (.head _)
    have hb : b ∈ a :: l := h.mem_iff.mpr (.head _)
    have e : a = b := by
      rcases List.mem_cons.mp ha with q | q
      · exact q
      · rcases List.mem_cons.mp hb with r | r
        · exact r.symm
        · have := p.1 b r; have := p'.1 a q; omega
    subst e
    rw [sorted_eq ((List.perm_cons a).mp h) p.2 p'.2]
section
variable {G : GX} {F : FX} {env : Env} {ρ : PEnv} {σ : List Cell} {Q : PV → List Cell → Prop}
theorem keys_of {h : Heap} {as : List Addr} : ∀ {l : List (Int × PV)} {kvs : List (Int × Value)}, KRel h as l kvs → kvs.map (·.1) = l.map (·.1)
  | [], _, H => by cases (show _ = [] from H); rfl
  | (i, q) :: l, _, H => by obtain ⟨u, r, rfl, hv, hr⟩ := H; simp [keys_of hr]
theorem ints_of : ∀ {vs : List Value} {ns : List Int}, vs.length = ns.length → (∀ (j : Nat) (v : Value), vs[j]? = some v → ∃ k t, ns[j]? = some k ∧ v = .int k t) → IntsAre vs ns
  | [], [], _, _ => .nil
  | [], _ :: _, hl, _ => by simp at hl
  | _ :: _, [], hl, _ => by simp at hl
  | v :: vs, n :: ns, hl, h => by
    obtain ⟨k, t, e, rfl⟩ := h 0 v rfl
    simp at e; subst e
    exact .cons _ _ (ints_of (by simpa using hl) fun j u hu => h (j + 1) u (by simpa using hu))
theorem ints_vrs {h : Heap} {as : List Addr} : ∀ {vs : List Value} {ns : List Int}, IntsAre vs ns → VRs h as (ns.map .int) vs
  | _, _, .nil => .nil
  | _, _, .cons _ _ r => .cons VR.int (ints_vrs r)
theorem OpN.sortedDict {n : Nat} (O : F.Ok G n) {i : Nat} {K : List (Int × PV)} (hi : σ[i]? = some (.dict K)) (hl : K.length < 60) (hs : (K.map (·.1)).Pairwise (fun x y => x ≤ y)) (h : Q (.ref σ.length) (σ ++ [.list ((K.map (·.1)).map .int)])) : OpN G F σ [.ref i] (fun vs => PySem.call (.builtin "sorted") vs) Q := fun m as s vs I V => by
  obtain ⟨v, rfl, hv⟩ := V.one
  obtain ⟨a, ha, rfl⟩ := hv.eRef
  obtain ⟨lo, kvs, hd, hk⟩ := I.cr i a _ ha hi
  obtain ⟨ep, hat⟩ := hd.dictAt
  have hlen := hk.len
  have hkeys := keys_of hk
  refine kdu_sorted (kdl_dict (knd := intKind G.prog G.w) (kvs := kvs) (ep := ep) lo) O.hh I.fr I.allNews hat (by rw [sizeLine_eq]; omega) fun B h' tk ws F' N' l1 hl' hv' => ?_
  have hI : IntsAre ws (K.map (·.1)) := ints_of (by rw [hl', hlen]; simp) fun j u hu => by
    obtain ⟨k, x, e, ek⟩ := hv' j u hu
    have e1 : (K.map (·.1))[j]? = some k := by rw [← hkeys, List.getElem?_map, e]; rfl
    cases u <;> simp [intKind, Value.isInt] at ek
    subst ek
    exact ⟨_, _, e1, rfl⟩
  refine ksk_lsort (s := { s with heap := h', toks := tk }) (its := ws.toArray) (n := 0) (news' := fun o => (B, o) :: Mine.allNews F.h₀ s.heap F.L) F' N' (fun o => .head fun p hp => Nat.ne_of_lt (l1 p hp)) (by simp) hI (by simp; omega) fun vs' ns' c h'' F'' N'' hI' _ hp hP _ => ?_
  have e : ns' = K.map (·.1) := sorted_eq hp hP hs
  subst e
  have nb := N'' (B, _) (.head _)
  have up := kept_new (l := [(B, W.listOf (List.toArray vs') c)]) I F'' N''
  have fB : s.heap.get? B = none := by
    cases q : s.heap.get? B with
    | none => rfl
    | some o => exact absurd (l1 (B, o) (allNews_iff.mpr ⟨q, nb.2.1, nb.2.2⟩)) (Nat.lt_irrefl _)
  obtain ⟨I', S'⟩ := I.new (s' := { s with heap := h'', toks := tk }) (c := .list ((K.map (·.1)).map .int)) up F'' fB (Ne.symm nb.2.1) ⟨vs', c, nb.1, ints_vrs hI'⟩ rfl rfl
  exact ⟨_, _, _, I', S', VR.last I.len, h⟩
end

noncomputable def tput (l : List (List Int × PV)) (k : List Int) (p : PV) : List (List Int × PV) := if l.any (fun x => decide (x.1 = k)) = true then l.map fun x => if x.1 = k then (x.1, p) else x else l ++ [(k, p)]
theorem TRel.any {h as} : ∀ {l : List (List Int × PV)} {vs : List (List Int × Addr × Value)} (k : List Int), TRel h as l vs → vs.any (fun x => decide (x.1 = k)) = l.any (fun x => decide (x.1 = k))
  | [], _, k, H => by cases (show _ = [] from H); rfl
  | (i, q) :: l, _, k, H => by
    obtain ⟨a, v, r, rfl, na, hv, hr⟩ := H
    simp only [List.any_cons, TRel.any k hr]
theorem TRel.map {h as} {p : PV} {v : Value} (V : VR h as p v) (k : List Int) : ∀ {l : List (List Int × PV)} {vs : List (List Int × Addr × Value)}, TRel h as l vs → TRel h as (l.map fun x => if x.1 = k then (x.1, p) else x) (vs.map fun x => if x.1 = k then (x.1, x.2.1, v) else x)
  | [], _, H => by cases (show _ = [] from H); rfl
  | (i, q) :: l, _, H => by
    obtain ⟨a, u, r, rfl, na, hv, hr⟩ := H
    by_cases z : i = k
    · simp only [List.map_cons, z, if_true]; exact ⟨a, v, _, rfl, na, V, TRel.map V k hr⟩
    · simp only [List.map_cons, z, if_false]; exact ⟨a, u, _, rfl, na, hv, TRel.map V k hr⟩
theorem TRel.snoc {h as} {p : PV} {v : Value} {b : Addr} (nb : b ∉ as) (V : VR h as p v) (k : List Int) : ∀ {l : List (List Int × PV)} {vs : List (List Int × Addr × Value)}, TRel h as l vs → TRel h as (l ++ [(k, p)]) (vs ++ [(k, b, v)])
  | [], _, H => by cases (show _ = [] from H); exact ⟨b, v, _, rfl, nb, V, rfl⟩
  | (i, q) :: l, _, H => by
    obtain ⟨a, u, r, rfl, na, hv, hr⟩ := H
    exact ⟨a, u, _, rfl, na, hv, TRel.snoc nb V k hr⟩
theorem TRel.len {h as} : ∀ {l : List (List Int × PV)} {vs : List (List Int × Addr × Value)}, TRel h as l vs → vs.length = l.length
  | [], _, H => by cases (show _ = [] from H); rfl
  | (i, q) :: l, _, H => by obtain ⟨a, u, r, rfl, na, hv, hr⟩ := H; simp [TRel.len hr]
theorem TRel.keys {h as} : ∀ {l : List (List Int × PV)} {vs : List (List Int × Addr × Value)}, TRel h as l vs → vs.map (·.1) = l.map (·.1)
  | [], _, H => by cases (show _ = [] from H); rfl
  | (i, q) :: l, _, H => by obtain ⟨a, u, r, rfl, na, hv, hr⟩ := H; simp [TRel.keys hr]
theorem atKey_none {K : Type} [DecidableEq K] : ∀ {xs : List (K × Addr × Value)} {k : K}, k ∉ xs.map (·.1) → atKey xs k = none := by
  intro xs k h
  unfold atKey
  simp only [Option.map_eq_none_iff, List.find?_eq_none]
  intro x hx e
  refine h (List.mem_map.mpr ⟨x, hx, ?_⟩)
  simpa using e
theorem items_ints {prog : Program} {w : World} {h : Heap} {as : List Addr} : ∀ {ks : List Int} {vs : List Value}, VRs h as (ks.map .int) vs → ItemsAre (intKind prog w) ks vs
  | [], vs, H => by rw [List.map_nil, VRs] at H; subst H; exact .nil
  | k :: ks, vs, H => by
    rw [List.map_cons, VRs] at H
    obtain ⟨v, r, rfl, hv, hr⟩ := H
    obtain ⟨t, rfl⟩ := hv.eInt
    exact .cons (isIntK prog w k t) (items_ints hr)
section
variable {G : GX} {F : FX} {env : Env} {ρ : PEnv} {σ : List Cell} {Q : PV → List Cell → Prop}
theorem OpU.tnew {n : Nat} (O : F.Ok G n) {i : Nat} {l : List (List Int × PV)} {ks : List Int} {p : PV} {Qu : List Cell → Prop} (hi : σ[i]? = some (.tdict l)) (hn : ks ∉ l.map (·.1)) (hl : l.length ≤ 1000) (h : Qu (σ.set i (.tdict (l ++ [(ks, p)])))) :
    OpU G F σ [.ref i, .tup (ks.map .int), p] (fun vs => match vs with | [o, k, v] => PySem.setItem o k v | _ => unsupported "") Qu := fun m as s vs I V => by
  obtain ⟨v, u, x, rfl, hv, hu, hx⟩ := V.three
  obtain ⟨a, ha, rfl⟩ := hv.eRef
  obtain ⟨t, ws, rfl, nt, ⟨o, ho, hc, k, hd⟩, hw⟩ := hu.eTup
  obtain ⟨lo, kvs, hdo, hk⟩ := I.cr i a _ ha hi
  have hkey : (tupleKind (intKind G.prog G.w)).is s.heap ks t := ⟨o, _, k, ho, hc, hd, by simpa using items_ints hw⟩
  refine wpAny_setItem_heap (knd := tupleKind (intKind G.prog G.w)) (show F.A.in1.units < cLine from by have := O.hu; show F.A.units + 1 < 9900; omega) hkey hdo (fun h' hd' hs => ?_) (by rw [hk.len, sizeLine_eq]; omega)
  rw [storedH_new (atKey_none (by rw [hk.keys]; exact hn))] at hd'
  have st := I.stpBut ha hs
  have live : ∀ y ∈ kvs, (s.heap.get? y.2.1).isSome = true := fun y m => by
    obtain ⟨_, _, _, _, _, _, _, r4, _⟩ := hdo
    obtain ⟨ob, _, _, hb, _⟩ := r4 y m
    rw [hb]; rfl
  obtain ⟨I', S'⟩ := I.setBut (s' := { s with heap := h', toks := s.toks + (tupleKind (intKind G.prog G.w)).draws ks }) (c := .tdict (l ++ [(ks, p)])) ha hs ⟨lo, _, hd', TRel.snoc nt (hx.stp st) ks (hk.stp st live)⟩ rfl rfl
  exact ⟨_, as, I', S', h⟩
end

section
variable {G : GX} {F : FX} {env : Env} {ρ : PEnv} {σ : List Cell} {Q : PV → List Cell → Prop}
/-- dictSet of a new tuple key -/
theorem tset_ {n : Nat} (O : F.Ok G n) {i : Nat} {l : List (List Int × PV)} {ks : List Int} {p : PV} {m as s} {a t : Addr} {x : Value} {P : Unit → Shared → Prop} {E : Value → Shared → Prop} (I : Inv G F m as σ s) (ha : as[i]? = some a) (hi : σ[i]? = some (.tdict l)) (hn : ks ∉ l.map (·.1)) (hl : l.length ≤ 1000)
    (hu : VR s.heap as (.tup (ks.map .int)) (.ref t)) (hx : VR s.heap as p x) (h : ∀ s', Inv G F m as (σ.set i (.tdict (l ++ [(ks, p)]))) s' → Stp F.L s.heap as s'.heap as → P () s') : wpAny (model G.prog G.w) F.A (dictSet a (.ref t) x) P E s := by
  obtain ⟨t', ws, e, nt, ⟨o, ho, hc, k, hd⟩, hw⟩ := hu.eTup
  cases e
  obtain ⟨lo, kvs, hdo, hk⟩ := I.cr i a _ ha hi
  have hkey : (tupleKind (intKind G.prog G.w)).is s.heap ks t := ⟨o, _, k, ho, hc, hd, by simpa using items_ints hw⟩
  refine wpAny_dictSet_heap (knd := tupleKind (intKind G.prog G.w)) (show F.A.units < cLine from by have := O.hu; show F.A.units < 9900; omega) hkey hdo (fun h' hd' hs => ?_) (by rw [hk.len, sizeLine_eq]; omega)
  rw [storedH_new (atKey_none (by rw [hk.keys]; exact hn))] at hd'
  have st := I.stpBut ha hs
  have live : ∀ y ∈ kvs, (s.heap.get? y.2.1).isSome = true := fun y m => by
    obtain ⟨_, _, _, _, _, _, _, r4, _⟩ := hdo
    obtain ⟨ob, _, _, hb, _⟩ := r4 y m
    rw [hb]; rfl
  obtain ⟨I', S'⟩ := I.setBut (s' := { s with heap := h', toks := s.toks + (tupleKind (intKind G.prog G.w)).draws ks }) (c := .tdict (l ++ [(ks, p)])) ha hs ⟨lo, _, hd', TRel.snoc nt (hx.stp st) ks (hk.stp st live)⟩ rfl rfl
  exact h _ I' S'
theorem WPE.tdict2 {n : Nat} (O : F.Ok G n) {k1 k2 v1 v2 : Expr} {pos : Pos} (a b : List Int) (hab : a ≠ b)
    (h : WPE G F env ρ (σ ++ [.tdict []]) k1 fun p1 σ1 => WPE G F env ρ σ1 v1 fun q1 σ2 => WPE G F env ρ σ2 k2 fun p2 σ3 => WPE G F env ρ σ3 v2 fun q2 σ4 => p1 = .tup (a.map .int) ∧ p2 = .tup (b.map .int) ∧ σ4[σ.length]? = some (.tdict []) ∧ Q (.ref σ.length) (σ4.set σ.length (.tdict [(a, q1), (b, q2)]))) :
    WPE G F env ρ σ (.Dict [some k1, some k2] [v1, v2] pos) Q := fun m as s I R => by
  rw [arm_eval_Dict, zip_pairTrees [some k1, some k2] [v1, v2] env pos rfl rfl, dictDisplay_pairs _ (by simp [pairTrees]) (by simp [pairTrees])]
  refine wpAny_bind (wpAny_standAt (wpAny_bind ?_))
  unfold subDict
  refine wpAny_bind (wpAny_alloc (wpAny_bind (wpAny_holding ?_)))
  rw [if_pos (by simp [pairTrees])]
  have up : ∀ b o, s.heap.get? b = some o → (s.heap.push { cls := .type "dict", data := .dict #[] }).get? b = some o := fun b o e => Heap.get?_push_of_some _ e
  have cr : CR G (s.heap.push { cls := .type "dict", data := .dict #[] }) (as ++ [s.heap.objs.size]) s.heap.objs.size (.tdict []) := ⟨notMods O I, [], Heap.DictOfH.new _, rfl⟩
  obtain ⟨I1, S1⟩ := I.new (s' := { s with heap := s.heap.push { cls := .type "dict", data := .dict #[] } }) (c := .tdict []) (fun b o e _ => up b o e) (I.frUp up) I.top.1 I.top.2 cr rfl rfl
  have ha : (as ++ [s.heap.objs.size])[σ.length]? = some s.heap.objs.size := by rw [← I.len]; simp
  refine wpAny_bind (pairTrees_cons_walk (wpm (h m _ _ I1 (R.stp S1)) fun u1 s1 H => ?_))
  obtain ⟨p1, σ1, as1, J1, T1, V1, h⟩ := H
  refine wpm (h m _ _ J1 (R.stp (S1.trans T1))) fun w1 s2 H => ?_
  obtain ⟨q1, σ2, as2, J2, T2, W1, h⟩ := H
  refine pairTrees_cons_walk (wpm (h m _ _ J2 (R.stp ((S1.trans T1).trans T2))) fun u2 s3 H => ?_)
  obtain ⟨p2, σ3, as3, J3, T3, V2, h⟩ := H
  refine wpm (h m _ _ J3 (R.stp (((S1.trans T1).trans T2).trans T3))) fun w2 s4 H => ?_
  obtain ⟨q2, σ4, as4, J4, T4, W2, rfl, rfl, hd, hq⟩ := H
  refine pairTrees_nil_walk ?_
  refine wpAny_holding ?_
  have T := ((T1.trans T2).trans T3).trans T4
  have ha4 := getElem?_of_prefix T.pre ha
  have V1' := ((V1.stp T2).stp T3).stp T4
  have W1' := (W1.stp T3).stp T4
  have V2' := V2.stp T4
  obtain ⟨t1, _, e1, _⟩ := V1'.eTup
  obtain ⟨t2, _, e2, _⟩ := V2'.eTup
  subst e1 e2
  refine wpAny_bind ?_
  rw [List.forIn_cons]
  refine wpAny_bind (wpAny_bind (tset_ O J4 ha4 hd (by simp) (by simp) V1' W1' fun s5 J5 T5 => wpAny_pure ?_))
  dsimp only
  rw [List.forIn_cons]
  refine wpAny_bind (wpAny_bind (tset_ O J5 ha4 (by rw [List.getElem?_set_self (List.getElem?_eq_some_iff.mp hd).1]) (by simp; exact Ne.symm hab) (by simp) (V2'.stp T5) (W2.stp T5) fun s6 J6 T6 => wpAny_pure ?_))
  dsimp only
  rw [List.forIn_nil]
  refine wpAny_pure (wpAny_pure (wpAny_pure (wpAny_pure ?_)))
  refine ⟨.ref σ.length, _, as4, J6, ((S1.trans T).trans T5).trans T6, ?_, ?_⟩
  · rw [VR]; exact ⟨_, ha4, rfl⟩
  · simpa using hq
end

section
variable {prog : Program} {w : World} {A : Around} {E : Value → Shared → Prop} {s : Shared}
theorem filter_one {xs : List (List Int × Addr × Value)} {es : Array DictEntry} (he : es.toList = xs.map (entryOfKey (tupleKind (intKind prog w)))) (hh : (xs.map fun x => tupleKeyHash (intKind prog w) x.1).Nodup) (h : Int) : ¬ (es.filter (·.hash == h)).size > 1 := by
  have e1 : (es.filter (·.hash == h)).size = (es.toList.filter (·.hash == h)).length := by rw [← Array.length_toList, Array.toList_filter]
  rw [e1, he]
  clear e1 he
  induction xs with
  | nil => simp
  | cons x xs ih =>
    rw [List.map_cons, List.nodup_cons] at hh
    rw [List.map_cons, List.filter_cons]
    split
    · rename_i q
      have q : tupleKeyHash (intKind prog w) x.1 = h := (by simpa [entryOfKey] using q : (tupleKind (intKind prog w)).hash x.1 = h)
      have : (xs.map (entryOfKey (tupleKind (intKind prog w)))).filter (·.hash == h) = [] := by
        rw [List.filter_eq_nil_iff]
        intro e he
        obtain ⟨y, hy, rfl⟩ := List.mem_map.mp he
        intro z
        have z : tupleKeyHash (intKind prog w) y.1 = h := (by simpa [entryOfKey] using z : (tupleKind (intKind prog w)).hash y.1 = h)
        exact hh.1 (List.mem_map.mpr ⟨y, hy, z.trans q.symm⟩)
      rw [this]; simp
    · exact ih hh.2
theorem empty_H {id : String} {o : Addr} {ob : Obj} {es ep} {xs : List (List Int × Addr × Value)} {Q : Array DictEntry → Shared → Prop} (ho : s.heap.get? o = some ob) (hd : ob.data = .dict es ep) (he : es.toList = xs.map (entryOfKey (tupleKind (intKind prog w))))
    (his : ∀ x ∈ xs, (tupleKind (intKind prog w)).is s.heap x.1 x.2.1) (hh : (xs.map fun x => tupleKeyHash (intKind prog w) x.1).Nodup) (h : Q es s) : wpAny (model prog w) A (Builtin.Dict.entriesForEmpty id o) Q E s := by
  unfold Builtin.Dict.entriesForEmpty
  refine wpAny_bind (wpAny_dictEntries ho hd ?_)
  refine wpAny_bind ?_
  rw [← Array.forIn_toList]
  refine wpAny_forIn_list _ (fun rest r s' => s' = s ∧ ∀ e ∈ rest, ∃ x ∈ xs, e = entryOfKey (tupleKind (intKind prog w)) x) _ ?_ ?_ _ _ ⟨rfl, fun e m => by rw [he] at m; obtain ⟨x, hx, rfl⟩ := List.mem_map.mp m; exact ⟨x, hx, rfl⟩⟩
  · rintro e rest r s' ⟨rfl, hr⟩
    obtain ⟨x, hx, rfl⟩ := hr e (.head _)
    refine wpAny_bind ?_
    show wpAny _ _ (specialOf (.ref x.2.1) "__eq__" >>= _) _ _ _
    refine wpAny_bind (wpAny_specialOf (IsTupleKey.typeIs (his x hx)) PySem.F.slot_tuple_eq.lookup (wpAny_pure ?_))
    rw [if_neg (filter_one he hh _)]
    split
    · exact wpAny_pure ⟨rfl, fun e m => hr e (.tail _ m)⟩
    · exact wpAny_pure ⟨rfl, fun e m => hr e (.tail _ m)⟩
  · rintro r s' ⟨rfl, _⟩
    exact wpAny_pure h
theorem merge_H {nm : String} {d o : Addr} {xs : List (List Int × Addr × Value)} {Q : Unit → Shared → Prop} (hdo : d ≠ o) (hoS : (o == sysModules) = false) (hd : s.heap.DictOfH (tupleKind (intKind prog w)) d []) (ho : s.heap.DictOfH (tupleKind (intKind prog w)) o xs) (hne : xs ≠ [])
    (hh : (xs.map fun x => tupleKeyHash (intKind prog w) x.1).Nodup) (hsz : xs.length ≤ sizeLine) (hQ : ∀ h', h'.DictOfH (tupleKind (intKind prog w)) d xs → Heap.SameBut d s.heap h' → Q () { s with heap := h' }) : wpAny (model prog w) A (Builtin.Dict.mergeDict nm d o) Q E s := by
  obtain ⟨od, esd, epd, hod, hcd, hdd, hed, _, _⟩ := id hd
  obtain ⟨oo, eso, epo, hoo, hco, hdo', heo, hio, hno⟩ := id ho
  have hl : eso.size = xs.length := size_of_entries heo
  unfold Builtin.Dict.mergeDict
  rw [if_neg (by simpa using hdo)]
  unfold Builtin.Dict.showsAll
  rw [if_neg (by rw [hoS]; exact Bool.false_ne_true)]
  refine wpAny_bind (wpAny_pure ?_)
  refine wpAny_bind (wpAny_dictEntries hoo hdo' ?_)
  dsimp only
  have hfew : (decide (eso.size ≤ 8) && eso.all fun e => (keyPart e.key).isSome) = false := by
    rw [Bool.and_eq_false_iff]; right
    rw [← Array.all_toList, heo]
    cases xs with
    | nil => exact absurd rfl hne
    | cons x xs => simp [entryOfKey, keyPart]
  rw [hfew]
  rw [if_pos (by rfl)]
  refine wpAny_bind (wpAny_dictEntries hod hdd ?_)
  have hemp : esd.isEmpty = true := by
    have h0 : esd = #[] := by apply Array.toList_inj.mp; rw [hed]; rfl
    rw [h0]; rfl
  rw [if_pos hemp]
  refine wpAny_bind (empty_H hoo hdo' heo hio hh ?_)
  have hn0 : (!eso.isEmpty) = true := by
    cases q : eso.isEmpty with
    | false => rfl
    | true =>
      have h0 : eso = #[] := Array.isEmpty_iff.mp q
      rw [h0] at hl
      exact absurd (List.length_eq_zero_iff.mp hl.symm) hne
  rw [if_pos hn0]
  refine wpAny_bind (wpAny_updateDictKeysTo hod hdd (wpAny_pure (hQ _ ⟨_, _, epd + 1, Heap.get?_update_self _ hod (Obj.isFreed_of_dict (Obj.data_mapDictKeys hdd _)), hcd.mapDictKeys _, Obj.data_mapDictKeys hdd _, heo, fun x hx => (tupleKind (intKind prog w)).keeps (hio x hx) hod hdd (Heap.SameBut.update ..), hno⟩ (Heap.SameBut.update ..))) (by omega))
theorem call_dictH {o : Addr} {xs : List (List Int × Addr × Value)} {Q : Value → Shared → Prop} (hoS : (o == sysModules) = false) (ho : s.heap.DictOfH (tupleKind (intKind prog w)) o xs) (hne : xs ≠ []) (hh : (xs.map fun x => tupleKeyHash (intKind prog w) x.1).Nodup) (hsz : xs.length ≤ sizeLine)
    (h : ∀ h', h'.DictOfH (tupleKind (intKind prog w)) s.heap.objs.size xs → Heap.SameBut s.heap.objs.size (s.heap.push { cls := .type "dict", data := .dict #[] }) h' → Q (.ref s.heap.objs.size) { s with heap := h' }) :
    wpAny (model prog w) A (call (.type "dict") [.ref o]) Q E s := by
  refine callType_codes (Q₁ := fun obj s₁ => obj = .ref s.heap.objs.size ∧ s₁ = { s with heap := s.heap.push { cls := .type "dict", data := .dict #[] } }) F.kt_called_dict (F.kt_typeCall_dict_1 _) F.entry_dict_init (kt_code_dict_new _ ⟨rfl, rfl⟩) ?_
  rintro obj s₁ ⟨rfl, rfl⟩
  have hnew : (s.heap.push { cls := .type "dict", data := .dict #[] }).DictOfH (tupleKind (intKind prog w)) s.heap.objs.size [] := Heap.DictOfH.new s.heap
  obtain ⟨oo, es, ep, hg, r1, r2, r3, r4, r5⟩ := id ho
  have hdo : s.heap.objs.size ≠ o := fun e => absurd (Heap.lt_size hg) (by rw [e]; exact Nat.lt_irrefl _)
  have ho' : (s.heap.push { cls := .type "dict", data := .dict #[] }).DictOfH (tupleKind (intKind prog w)) o xs := ⟨oo, es, ep, Heap.get?_push_of_some _ hg, r1, r2, r3, fun x hx => by
    obtain ⟨ob, items, n, hb, r⟩ := r4 x hx
    exact ⟨ob, items, n, Heap.get?_push_of_some _ hb, r⟩, r5⟩
  refine ⟨hnew.typeIs, F.args_dict_init_2 _ _, ?_⟩
  unfold Builtin.«dict.__init__»
  refine wpAny_bind ?_
  unfold Builtin.Dict.selfAndRest
  refine wpAny_bind (wpAny_notOrdered_dict hnew.typeIs ?_)
  show wpAny _ _ (pure (s.heap.objs.size, [Value.ref o])) _ _ _
  refine wpAny_pure ?_
  show wpAny _ _ (Builtin.Dict.updateFrom "dict.__init__" s.heap.objs.size (.ref o) [] .none) _ _ _
  unfold Builtin.Dict.updateFrom
  refine wpAny_bind (wpAny_typeOf ho'.typeIs ?_)
  rw [if_neg (by decide)]
  refine wpAny_bind ?_
  unfold Builtin.Dict.merge
  refine wpAny_bind ?_
  unfold Builtin.Dict.readDirectly
  refine wpAny_bind (wpAny_isInstance ho'.typeIs isSubtype_dict_dict ?_)
  simp only [Bool.not_true, Bool.false_eq_true, if_false]
  refine wpAny_bind (wpAny_specialOf ho'.typeIs F.slot_dict_iter.lookup (wpAny_pure ?_))
  simp only [beq_self_eq_true, if_true]
  refine wpAny_bind (wpAny_pure ?_)
  refine merge_H hdo hoS hnew ho' hne hh hsz fun h' hd' hs' => ?_
  show wpAny _ _ (Builtin.Dict.addKeywords s.heap.objs.size [] >>= _) _ _ _
  exact wpAny_bind (wpAny_pure (wpAny_pure ⟨rfl, h h' hd' hs'⟩))
end
section
variable {G : GX} {F : FX} {env : Env} {ρ : PEnv} {σ : List Cell} {Q : PV → List Cell → Prop}
theorem OpN.tdictCopy {n : Nat} (O : F.Ok G n) {i : Nat} {l : List (List Int × PV)} (hi : σ[i]? = some (.tdict l)) (hne : l ≠ []) (hl : l.length ≤ 1000) (hh : (l.map fun x => tupleKeyHash (intKind G.prog G.w) x.1).Nodup) (h : Q (.ref σ.length) (σ ++ [.tdict l])) : OpN G F σ [.ref i] (fun vs => PySem.call (.type "dict") vs) Q := fun m as s vs I V => by
  obtain ⟨v, rfl, hv⟩ := V.one
  obtain ⟨a, ha, rfl⟩ := hv.eRef
  obtain ⟨lo, kvs, hd, hk⟩ := I.cr i a _ ha hi
  have hm : kvs.map (fun x => tupleKeyHash (intKind G.prog G.w) x.1) = l.map fun x => tupleKeyHash (intKind G.prog G.w) x.1 := by
    have := congrArg (List.map (tupleKeyHash (intKind G.prog G.w))) hk.keys
    simpa [List.map_map, Function.comp_def] using this
  refine call_dictH lo hd (fun z => hne (by have := hk.len; rw [z] at this; exact List.length_eq_zero_iff.mp this.symm)) (by rw [hm]; exact hh) (by rw [hk.len, sizeLine_eq]; omega) fun h' hd' hs => ?_
  have up : ∀ b o, s.heap.get? b = some o → h'.get? b = some o := fun b o e => (hs.2 b fun z => by rw [z, I.top.1] at e; cases e).trans (Heap.get?_push_of_some _ e)
  have live : ∀ y ∈ kvs, (s.heap.get? y.2.1).isSome = true := fun y m => by
    obtain ⟨_, _, _, _, _, _, _, r4, _⟩ := hd
    obtain ⟨ob, _, _, hb, _⟩ := r4 y m
    rw [hb]; rfl
  exact PE.new (t := s.toks) (c := .tdict l) I up ⟨notMods O I, kvs, hd', hk.stp (I.stpNew fun b o e _ => up b o e) live⟩ h
end

theorem items_any {prog prog' : Program} {w w' : World} : ∀ {ks : List Int} {vs : List Value}, ItemsAre (intKind prog w) ks vs → ItemsAre (intKind prog' w') ks vs
  | _, _, .nil => .nil
  | _, _, .cons h r => .cons h (items_any r)
theorem dictH_any {prog prog' : Program} {w w' : World} {h : Heap} {d : Addr} {xs : List (List Int × Addr × Value)} (H : h.DictOfH (tupleKind (intKind prog w)) d xs) : h.DictOfH (tupleKind (intKind prog' w')) d xs := by
  obtain ⟨o, es, ep, ho, hc, hd, he, hi, hn⟩ := H
  refine ⟨o, es, ep, ho, hc, hd, he, fun x hx => ?_, hn⟩
  obtain ⟨ob, items, n, h1, h2, h3, h4⟩ := hi x hx
  exact ⟨ob, items, n, h1, h2, h3, items_any h4⟩
section
variable {prog : Program} {w : World} {A : Around} {E : Value → Shared → Prop} {s : Shared}
theorem sameH {nm : String} {a b : Addr} {xs ys : List (List Int × Addr × Value)} {Q : Bool → Shared → Prop} (ha : (a == sysModules) = false) (hb : (b == sysModules) = false)
    (da : s.heap.DictOfH (tupleKind (intKind prog w)) a xs) (db : s.heap.DictOfH (tupleKind (intKind prog w)) b ys) (hl : xs.length = ys.length) (hu : A.units < cLine)
    (hits : ∀ x ∈ xs, ∃ p : Addr × Value, (∃ j : Nat, ys[j]? = some (x.1, p)) ∧ SeqAt.EqAt A s x.2.2 p.2 true) (h : Q true s) :
    wpAny (model prog w) A (Builtin.Dict.samePairs nm a b) Q E s := by
  obtain ⟨oa, es, ep, hoa, _, hda, hea, hia, hna⟩ := da
  obtain ⟨ob, es', ep', hob, _, hdb, heb, hib, hnb⟩ := db
  have hla : es.size = xs.length := size_of_entries hea
  have hlb : es'.size = ys.length := size_of_entries heb
  unfold Builtin.Dict.samePairs Builtin.Dict.showsAll
  rw [if_neg (show ¬ (a == sysModules) = true by rw [ha]; exact Bool.false_ne_true), if_neg (show ¬ (b == sysModules) = true by rw [hb]; exact Bool.false_ne_true)]
  refine wpAny_bind (wpAny_pure (wpAny_bind (wpAny_pure ?_)))
  refine wpAny_bind (wpAny_dictEntries hoa hda ?_)
  dsimp only
  refine wpAny_bind (wpAny_dictEntries hob hdb ?_)
  have hsz : es.size = es'.size := by rw [hla, hlb, hl]
  rw [if_neg (by rw [hsz]; simp)]
  refine wpAny_bind (wpAny_dictEpoch hoa hda ?_)
  refine wpAny_bind ?_
  rw [Std.Legacy.Range.forIn_eq_forIn_range']
  simp only [Std.Legacy.Range.size, Nat.sub_zero, Nat.add_sub_cancel, Nat.div_one]
  refine wpAny_forIn_list _
    (fun rest q s' => s' = s ∧ q = (none, ()) ∧ ∃ i, rest = List.range' i (es.size - i) ∧ i ≤ es.size)
    _ ?_ ?_ _ _ ⟨rfl, rfl, 0, by simp, Nat.zero_le _⟩
  · rintro x rest q s' ⟨rfl, rfl, i, hr, hi⟩
    have hlt : i < es.size := by
      rcases Nat.lt_or_ge i es.size with h | h
      · exact h
      · rw [Nat.sub_eq_zero_of_le h] at hr; simp at hr
    obtain ⟨rfl, hrest⟩ : x = i ∧ rest = List.range' (i + 1) (es.size - (i + 1)) := by
      have e : es.size - i = (es.size - (i + 1)) + 1 := by omega
      rw [e, List.range'_succ] at hr
      injection hr with h1 h2
      exact ⟨h1, h2⟩
    refine wpAny_bind (wpAny_dictEntries hoa hda ?_)
    have hlt' : x < xs.length := by rw [← hla]; exact hlt
    have hex : es[x]? = some (entryOfKey (tupleKind (intKind prog w)) xs[x]) := by rw [entry_at hea x, List.getElem?_eq_getElem hlt']; rfl
    rw [hex]
    have hm : xs[x] ∈ xs := List.getElem_mem hlt'
    obtain ⟨p, ⟨j, hj⟩, he⟩ := hits _ hm
    have hkey := hia _ hm
    generalize xs[x] = y at hex hm hj he hkey
    show wpAny _ _ (holding [.ref y.2.1, y.2.2] _ >>= _) _ _ _
    refine wpAny_bind (wpAny_holding (wpAny_bind ?_))
    show wpAny _ _ (dictFind b (.ref y.2.1) ((tupleKind (intKind prog w)).hash y.1)) _ _ _
    refine wpAny_dictFind_heap (knd := tupleKind (intKind prog w)) hu hkey hob hdb heb hib hnb (fun hno => absurd hj (hno j p)) fun j' p' hj' => ?_
    have ep' : j' = j := idxH_unique hnb hj' hj
    subst ep'
    rw [hj] at hj'; cases hj'
    dsimp only
    refine wpAny_bind (wpAny_dictEntries hob hdb ?_)
    have hexb : es'[j']? = some (entryOfKey (tupleKind (intKind prog w)) (y.1, p)) := by rw [entry_at heb j', hj]; rfl
    rw [hexb]
    show wpAny _ _ (holding [p.2] (eqBool y.2.2 p.2)) _ _ _
    refine wpAny_holding (he prog w _ _ ?_)
    show wpAny _ _ (if (!true) = true then _ else _) _ _ _
    rw [if_neg (by decide)]
    refine wpAny_bind (wpAny_dictEpoch hoa hda ?_)
    rw [if_neg (by simp)]
    exact wpAny_pure ⟨rfl, rfl, x + 1, hrest, hlt⟩
  · rintro q s' ⟨rfl, rfl, i, hr, hi⟩
    exact wpAny_pure h
theorem rcH {prog₀ : Program} {w₀ : World} {a b : Addr} {xs ys : List (List Int × Addr × Value)} (ha : (a == sysModules) = false) (hb : (b == sysModules) = false)
    (da : s.heap.DictOfH (tupleKind (intKind prog₀ w₀)) a xs) (db : s.heap.DictOfH (tupleKind (intKind prog₀ w₀)) b ys) (hl : xs.length = ys.length) (hu : A.units + 8 < cLine)
    (hits : ∀ x ∈ xs, ∃ p : Addr × Value, (∃ j : Nat, ys[j]? = some (x.1, p)) ∧ SeqAt.EqAt A.in1 s x.2.2 p.2 true) : SeqAt.RcAt A s (.ref a) (.ref b) true := fun prog w E Q h => by
  have da' := dictH_any (prog' := prog) (w' := w) da
  have db' := dictH_any (prog' := prog) (w' := w) db
  have hu' : A.units < cLine := by omega
  have hu1 : A.in1.units < cLine := by show A.units + 1 < cLine; omega
  refine wpAny_richCompare_same_room (op := .Eq) da'.typeIs db'.typeIs PySem.F.slot_dict_eq (wpAny_call_entry PySem.F.slot_dict_eq da'.typeIs PySem.F.entry_dict_eq ?_ (PySem.F.args_dict_eq_2 _ _)) hu'
  show wpAny _ _ (Builtin.Dict.dictSlotArgs "__eq__" ⟨[.ref a, .ref b], []⟩ >>= _) _ _ s
  refine wpAny_bind ?_
  unfold Builtin.Dict.dictSlotArgs
  refine wpAny_bind (wpAny_notOrdered_dict da'.typeIs ?_)
  show wpAny _ _ (pure (Value.ref a, Value.ref b)) _ _ s
  refine wpAny_pure ?_
  refine wpAny_bind (wpAny_isInstance (T := "dict") db'.typeIs PySem.F.sub_dict_dict ?_)
  simp only [Bool.not_true, Bool.false_eq_true, if_false]
  refine wpAny_bind (wpAny_pure (wpAny_bind (wpAny_pure ?_)))
  refine wpAny_bind (sameH ha hb da' db' hl hu1 hits ?_)
  refine wpAny_pure ⟨_, rfl, ?_, ?_⟩
  · exact fun x => nomatch x
  · simpa using h
end
section
variable {G : GX} {F : FX} {env : Env} {ρ : PEnv} {σ : List Cell} {Q : PV → List Cell → Prop} {m : Str → Option Value} {as : List Addr} {s : Shared}
theorem eqAtD {n : Nat} (O : F.Ok G n) (I : Inv G F m as σ s) {p q : PV} {d : PyData} {v u : Value} {A : Around} (hA : A.units ≤ F.A.units + 4) (hp : DV σ p d) (hq : DV σ q d) (sd : SeqAt.shaped d = true) (V : VR s.heap as p v) (U : VR s.heap as q u) : SeqAt.EqAt A s v u true := by
  obtain ⟨_, r1⟩ := hp.reads I V
  obtain ⟨_, r2⟩ := hq.reads I U
  have sd' := sd
  simp only [SeqAt.shaped, Bool.and_eq_true, decide_eq_true_eq] at sd'
  have e := SeqAt.eqAt_reads d d A s v u _ _ r1 r2 sd'.1 sd'.1 (by
    have := O.hu
    have h2 : min d.depth d.depth ≤ 64 := by omega
    show A.units + min d.depth d.depth < 9900
    omega)
  rw [SeqAt.eqv_refl d sd'.1] at e
  exact e
theorem TRel.at {h as} : ∀ {l : List (List Int × PV)} {vs : List (List Int × Addr × Value)} {j : Nat} {x : List Int × Addr × Value}, TRel h as l vs → vs[j]? = some x → ∃ p, l[j]? = some (x.1, p) ∧ VR h as p x.2.2
  | [], _, _, _, H, e => by cases (show _ = [] from H); simp at e
  | (i, q) :: l, _, j, x, H, e => by
    obtain ⟨a, v, r, rfl, na, hv, hr⟩ := H
    cases j with
    | zero => simp at e; subst e; exact ⟨q, rfl, hv⟩
    | succ j => simpa using TRel.at hr (by simpa using e)
/-- a tuple of a name, a count, a list of data and a tuple-keyed dict, held against its like -/
theorem Op2.eqTold {n : Nat} (O : F.Ok G n) {x : Str} {k : Int} {a b c d : Nat} {l : List PV} {ds : List PyData} {t : List (List Int × PV)} (ha : σ[a]? = some (.list l)) (hc : σ[c]? = some (.list l)) (hl : DVs σ l ds) (sd : SeqAt.shaped (.list ds) = true)
    (hb : σ[b]? = some (.tdict t)) (hd : σ[d]? = some (.tdict t)) (ht : ∀ y ∈ t, ∃ i : Int, y.2 = .int i) (hx : PyData.strOk x = true) (h : Q (.bool true) σ) :
    Op2 G F σ (.tup [.str x, .int k, .ref a, .ref b]) (.tup [.str x, .int k, .ref c, .ref d]) (compareOp .Eq) Q := fun m as s v u I V U => by
  obtain ⟨t1, vs, rfl, n1, T1, hv⟩ := V.eTup
  obtain ⟨t2, us, rfl, n2, T2, hu⟩ := U.eTup
  rw [VRs] at hv hu
  obtain ⟨v1, r, rfl, V1, hv⟩ := hv
  obtain ⟨u1, r', rfl, U1, hu⟩ := hu
  obtain ⟨v2, v3, v4, rfl, V2, V3, V4⟩ := hv.three
  obtain ⟨u2, u3, u4, rfl, U2, U3, U4⟩ := hu.three
  have un := O.hu
  have R : SeqAt.EqAt F.A.in1 s v4 u4 true := by
    obtain ⟨b', eb, rfl⟩ := V4.eRef
    obtain ⟨d', ed, rfl⟩ := U4.eRef
    by_cases q : b' = d'
    · subst q; exact SeqAt.EqAt.same _
    · obtain ⟨lo, xs, dx, kx⟩ := I.cr _ _ _ eb hb
      obtain ⟨lo', ys, dy, ky⟩ := I.cr _ _ _ ed hd
      refine SeqAt.EqAt.of_refs q (rcH lo lo' dx dy (by rw [kx.len, ky.len]) (by show F.A.units + 1 + 8 < 9900; omega) fun y hy => ?_)
      obtain ⟨j, hj, e⟩ := List.getElem_of_mem hy
      have ej : xs[j]? = some y := by rw [List.getElem?_eq_getElem hj, e]
      obtain ⟨p, hp, Vp⟩ := kx.at ej
      have jl : j < ys.length := by rw [ky.len, ← kx.len]; exact hj
      have ej' := List.getElem?_eq_getElem jl
      obtain ⟨p', hp', Vp'⟩ := ky.at ej'
      rw [hp] at hp'
      have e2 := Option.some.inj hp'
      have e3 : y.1 = ys[j].1 := (Prod.mk.inj e2).1
      have e4 : p = p' := (Prod.mk.inj e2).2
      subst e4
      obtain ⟨i, ei⟩ := ht _ (List.mem_of_getElem? hp)
      have ei : p = .int i := ei
      subst ei
      refine ⟨ys[j].2, ⟨j, by rw [ej', e3]⟩, eqAtD (d := .int i) O I (by show F.A.units + 1 + 1 ≤ F.A.units + 4; omega) (.flat _ rfl) (.flat _ rfl) rfl Vp Vp'⟩
  refine SeqAt.eq_tupleAt (e := fun _ => true) T1 T2 (by show F.A.units < 9900; omega) (fun j h1 h2 => ?_) (PE.ret I rfl ?_ h)
  · have h1 : j < 4 := by simpa using h1
    have in1 : F.A.in1.units ≤ F.A.units + 4 := by show F.A.units + 1 ≤ F.A.units + 4; omega
    rcases (by decide : ∀ m : Fin 4, m.val = 0 ∨ m.val = 1 ∨ m.val = 2 ∨ m.val = 3) ⟨j, h1⟩ with rfl | rfl | rfl | rfl
    · exact eqAtD (d := .str x) O I in1 (.flat _ rfl) (.flat _ rfl) (by simp [SeqAt.shaped, PyData.canLay0, PyData.depth, hx]) V1 U1
    · exact eqAtD (d := .int k) O I in1 (.flat _ rfl) (.flat _ rfl) (by simp [SeqAt.shaped, PyData.canLay0, PyData.depth]) V2 U2
    · exact eqAtD (d := .list ds) O I in1 (.list ha hl) (.list hc hl) sd V3 U3
    · exact R
  · have e : ((List.range (min (List.toArray [v1, v2, v3, v4]).size (List.toArray [u1, u2, u3, u4]).size)).all (fun _ => true) && (List.toArray [v1, v2, v3, v4]).size == (List.toArray [u1, u2, u3, u4]).size) = true := by simp
    rw [e]; exact VR.bool
end

section
variable {G : GX} {F : FX} {env : Env} {ρ : PEnv} {σ : List Cell}
/-- a name's part -/
theorem WPE.nameAt {x : Str} {px kp pos : Pos} {k : Int} {tk j : Nat} {l : List PV} {p : PV} {Q : PV → List Cell → Prop} (e : ρ.lookup x = some (.tup l)) (hj : seqIndex? k l.length = some j) (hp : l[j]? = some p) (h : Q p σ)
    (hk : (decide (-9 ≤ k) && decide (k ≤ 9) && !(x == ("__debug__" : Str)) && !(x == ("__classdict__" : Str))) = true := by decide) : WPE G F env ρ σ (.Subscript (.Name x px) (.Constant (.int k) tk kp) pos) Q := by
  simp only [Bool.and_eq_true, decide_eq_true_eq, Bool.not_eq_true'] at hk
  exact WPE.item (WPE.name e (WPE.cint (Op2.tupAt hj hp h (by omega) (by omega))) hk.1.2 hk.2)
/-- a name's part held against a word -/
theorem WPB.nameTag {x a b : Str} {px kp pos bp cpos : Pos} {k : Int} {tk tb j : Nat} {l : List PV} {Q : Bool → List Cell → Prop} (e : ρ.lookup x = some (.tup l)) (hj : seqIndex? k l.length = some j) (hp : l[j]? = some (.str a)) (h : Q (a == b) σ)
    (hk : (decide (-9 ≤ k) && decide (k ≤ 9) && !(x == ("__debug__" : Str)) && !(x == ("__classdict__" : Str))) = true := by decide) : WPB G F env ρ σ (.Compare (.Subscript (.Name x px) (.Constant (.int k) tk kp) pos) [.Eq] [.Constant (.str b) tb bp] cpos) Q :=
  WPB.cmp (WPE.nameAt e hj hp (WPE.cstr (Op2.eqS ⟨_, rfl, h⟩)) hk)
theorem WPB.nameTagNe {x a b : Str} {px kp pos bp cpos : Pos} {k : Int} {tk tb j : Nat} {l : List PV} {Q : Bool → List Cell → Prop} (e : ρ.lookup x = some (.tup l)) (hj : seqIndex? k l.length = some j) (hp : l[j]? = some (.str a)) (h : Q (a != b) σ)
    (hk : (decide (-9 ≤ k) && decide (k ≤ 9) && !(x == ("__debug__" : Str)) && !(x == ("__classdict__" : Str))) = true := by decide) : WPB G F env ρ σ (.Compare (.Subscript (.Name x px) (.Constant (.int k) tk kp) pos) [.NotEq] [.Constant (.str b) tb bp] cpos) Q :=
  WPB.cmp (WPE.nameAt e hj hp (WPE.cstr (Op2.neS ⟨_, rfl, h⟩)) hk)
theorem WPS.ifTag {x a b : Str} {px kp pos bp cpos ip : Pos} {k : Int} {tk tb j : Nat} {l : List PV} {bd el rest : List Stmt} {N : PEnv → List Cell → Prop} {Rt : PV → List Cell → Prop} (e : ρ.lookup x = some (.tup l)) (hj : seqIndex? k l.length = some j) (hp : l[j]? = some (.str a))
    (h : ((a == b) = true → WPS G F ρ σ bd (fun ρ' σ' => WPS G F ρ' σ' rest N Rt) Rt) ∧ ((a == b) = false → WPS G F ρ σ el (fun ρ' σ' => WPS G F ρ' σ' rest N Rt) Rt))
    (hk : (decide (-9 ≤ k) && decide (k ≤ 9) && !(x == ("__debug__" : Str)) && !(x == ("__classdict__" : Str))) = true := by decide) :
    WPS G F ρ σ (.If (.Compare (.Subscript (.Name x px) (.Constant (.int k) tk kp) pos) [.Eq] [.Constant (.str b) tb bp] cpos) bd el ip :: rest) N Rt :=
  WPS.cons (WPX.ite (WPB.nameTag e hj hp h hk))
theorem WPS.ifTagNe {x a b : Str} {px kp pos bp cpos ip : Pos} {k : Int} {tk tb j : Nat} {l : List PV} {bd el rest : List Stmt} {N : PEnv → List Cell → Prop} {Rt : PV → List Cell → Prop} (e : ρ.lookup x = some (.tup l)) (hj : seqIndex? k l.length = some j) (hp : l[j]? = some (.str a))
    (h : ((a != b) = true → WPS G F ρ σ bd (fun ρ' σ' => WPS G F ρ' σ' rest N Rt) Rt) ∧ ((a != b) = false → WPS G F ρ σ el (fun ρ' σ' => WPS G F ρ' σ' rest N Rt) Rt))
    (hk : (decide (-9 ≤ k) && decide (k ≤ 9) && !(x == ("__debug__" : Str)) && !(x == ("__classdict__" : Str))) = true := by decide) :
    WPS G F ρ σ (.If (.Compare (.Subscript (.Name x px) (.Constant (.int k) tk kp) pos) [.NotEq] [.Constant (.str b) tb bp] cpos) bd el ip :: rest) N Rt :=
  WPS.cons (WPX.ite (WPB.nameTagNe e hj hp h hk))
/-- names and constants as arguments -/
noncomputable def argsOf (ρ : PEnv) : List Expr → Option (List PV)
  | [] => some []
  | .Name x _ :: es => match x == ("__debug__" : Str) || x == ("__classdict__" : Str) with
    | true => none
    | false => match ρ.lookup x with
      | some p => (match argsOf ρ es with | some ps => some (p :: ps) | none => none)
      | none => none
  | .Constant (.int i) _ _ :: es => match argsOf ρ es with | some ps => some (.int i :: ps) | none => none
  | .Constant (.str s) _ _ :: es => match argsOf ρ es with | some ps => some (.str s :: ps) | none => none
  | _ => none
theorem WPL.args {pos : Pos} : ∀ {es : List Expr} {ps : List PV} {Q : List PV → List Cell → Prop}, argsOf ρ es = some ps → Q ps σ → WPL G F env ρ σ pos es Q := by
  intro es
  induction es with
  | nil => intro ps Q e h; rw [argsOf] at e; cases e; exact WPL.nil h
  | cons a es ih =>
    intro ps Q e h
    unfold argsOf at e
    split at e
    · rename_i he; cases he
    · rename_i x px es' he
      cases he
      split at e
      · cases e
      · rename_i hx
        split at e
        · rename_i p hl
          split at e
          · rename_i ps' hs
            cases e
            simp only [Bool.or_eq_false_iff] at hx
            exact WPL.cons (WPE.name hl (ih hs h) hx.1 hx.2)
          · cases e
        · cases e
    · rename_i i t p es' he
      cases he
      split at e
      · rename_i ps' hs; cases e; exact WPL.cons (WPE.cint (ih hs h))
      · cases e
    · rename_i i t p es' he
      cases he
      split at e
      · rename_i ps' hs; cases e; exact WPL.cons (WPE.cstr (ih hs h))
      · cases e
    · cases e
theorem WPL.consN {pos : Pos} {x : Str} {px : Pos} {p : PV} {es : List Expr} {Q : List PV → List Cell → Prop} (e : ρ.lookup x = some p) (h : WPL G F env ρ σ pos es fun ps σ' => Q (p :: ps) σ')
    (hk : (!(x == ("__debug__" : Str)) && !(x == ("__classdict__" : Str))) = true := by decide) : WPL G F env ρ σ pos (.Name x px :: es) Q := by
  simp only [Bool.and_eq_true, Bool.not_eq_true'] at hk
  exact WPL.cons (WPE.name e h hk.1 hk.2)
theorem WPS.ite {t : Expr} {b o rest : List Stmt} {pos : Pos} {N : PEnv → List Cell → Prop} {Rt : PV → List Cell → Prop} (h : WPB G F F.env ρ σ t fun c σ₁ => (c = true → WPS G F ρ σ₁ b (fun ρ' σ' => WPS G F ρ' σ' rest N Rt) Rt) ∧ (c = false → WPS G F ρ σ₁ o (fun ρ' σ' => WPS G F ρ' σ' rest N Rt) Rt)) : WPS G F ρ σ (.If t b o pos :: rest) N Rt :=
  WPS.cons (WPX.ite h)
theorem WPS.ret {e : Expr} {rest : List Stmt} {pos : Pos} {N : PEnv → List Cell → Prop} {Rt : PV → List Cell → Prop} (h : WPE G F F.env ρ σ e Rt) : WPS G F ρ σ (.Return (some e) pos :: rest) N Rt := WPS.cons (WPX.ret h)
theorem WPS.assign {n : Nat} (O : F.Ok G n) {x : Str} {px pos : Pos} {e : Expr} {rest : List Stmt} {N : PEnv → List Cell → Prop} {Rt : PV → List Cell → Prop} (hx : F.env.kindOf x = some .local) (h : WPE G F F.env ρ σ e fun p σ' => WPS G F ((x, p) :: ρ) σ' rest N Rt)
    (hs : swapsWith e (some (.Name x px)) (Pos.line pos) F.env = pure false := by rfl) : WPS G F ρ σ (.Assign [.Name x px] e pos :: rest) N Rt := WPS.cons (WPX.assign O hx h hs)
theorem WPB.nameIs {x a b : Str} {px bp cpos : Pos} {tb : Nat} {Q : Bool → List Cell → Prop} (e : ρ.lookup x = some (.str a)) (h : Q (a == b) σ) (hk : (!(x == ("__debug__" : Str)) && !(x == ("__classdict__" : Str))) = true := by decide) : WPB G F env ρ σ (.Compare (.Name x px) [.Eq] [.Constant (.str b) tb bp] cpos) Q := by
  simp only [Bool.and_eq_true, Bool.not_eq_true'] at hk
  exact WPB.cmp (WPE.name e (WPE.cstr (Op2.eqS ⟨_, rfl, h⟩)) hk.1 hk.2)
theorem WPS.ifIs {x a b : Str} {px bp cpos ip : Pos} {tb : Nat} {bd el rest : List Stmt} {N : PEnv → List Cell → Prop} {Rt : PV → List Cell → Prop} (e : ρ.lookup x = some (.str a))
    (h : ((a == b) = true → WPS G F ρ σ bd (fun ρ' σ' => WPS G F ρ' σ' rest N Rt) Rt) ∧ ((a == b) = false → WPS G F ρ σ el (fun ρ' σ' => WPS G F ρ' σ' rest N Rt) Rt)) (hk : (!(x == ("__debug__" : Str)) && !(x == ("__classdict__" : Str))) = true := by decide) :
    WPS G F ρ σ (.If (.Compare (.Name x px) [.Eq] [.Constant (.str b) tb bp] cpos) bd el ip :: rest) N Rt := WPS.ite (WPB.nameIs e h hk)
theorem WPS.ifTagT {x a b : Str} {px kp pos bp cpos ip : Pos} {k : Int} {tk tb j : Nat} {l : List PV} {bd el rest : List Stmt} {N : PEnv → List Cell → Prop} {Rt : PV → List Cell → Prop} (e : ρ.lookup x = some (.tup l)) (hj : seqIndex? k l.length = some j) (hp : l[j]? = some (.str a)) (hab : (a == b) = true) (h : WPS G F ρ σ bd (fun ρ' σ' => WPS G F ρ' σ' rest N Rt) Rt) (hk : (decide (-9 ≤ k) && decide (k ≤ 9) && !(x == ("__debug__" : Str)) && !(x == ("__classdict__" : Str))) = true := by decide) : WPS G F ρ σ (.If (.Compare (.Subscript (.Name x px) (.Constant (.int k) tk kp) pos) [.Eq] [.Constant (.str b) tb bp] cpos) bd el ip :: rest) N Rt :=
  WPS.ifTag e hj hp ⟨fun _ => h, fun z => by rw [hab] at z; cases z⟩ hk
theorem WPS.ifTagF {x a b : Str} {px kp pos bp cpos ip : Pos} {k : Int} {tk tb j : Nat} {l : List PV} {bd el rest : List Stmt} {N : PEnv → List Cell → Prop} {Rt : PV → List Cell → Prop} (e : ρ.lookup x = some (.tup l)) (hj : seqIndex? k l.length = some j) (hp : l[j]? = some (.str a)) (hab : (a == b) = false) (h : WPS G F ρ σ el (fun ρ' σ' => WPS G F ρ' σ' rest N Rt) Rt) (hk : (decide (-9 ≤ k) && decide (k ≤ 9) && !(x == ("__debug__" : Str)) && !(x == ("__classdict__" : Str))) = true := by decide) : WPS G F ρ σ (.If (.Compare (.Subscript (.Name x px) (.Constant (.int k) tk kp) pos) [.Eq] [.Constant (.str b) tb bp] cpos) bd el ip :: rest) N Rt :=
  WPS.ifTag e hj hp ⟨fun z => by (rw [hab] at z; cases z), fun _ => h⟩ hk
theorem WPS.ifTagF0 {x a b : Str} {px kp pos bp cpos ip : Pos} {k : Int} {tk tb j : Nat} {l : List PV} {bd rest : List Stmt} {N : PEnv → List Cell → Prop} {Rt : PV → List Cell → Prop} (e : ρ.lookup x = some (.tup l)) (hj : seqIndex? k l.length = some j) (hp : l[j]? = some (.str a)) (hab : (a == b) = false) (h : WPS G F ρ σ rest N Rt) (hk : (decide (-9 ≤ k) && decide (k ≤ 9) && !(x == ("__debug__" : Str)) && !(x == ("__classdict__" : Str))) = true := by decide) : WPS G F ρ σ (.If (.Compare (.Subscript (.Name x px) (.Constant (.int k) tk kp) pos) [.Eq] [.Constant (.str b) tb bp] cpos) bd [] ip :: rest) N Rt :=
  WPS.ifTagF e hj hp hab (WPS.nil h) hk
theorem WPS.ifTagNeT {x a b : Str} {px kp pos bp cpos ip : Pos} {k : Int} {tk tb j : Nat} {l : List PV} {bd el rest : List Stmt} {N : PEnv → List Cell → Prop} {Rt : PV → List Cell → Prop} (e : ρ.lookup x = some (.tup l)) (hj : seqIndex? k l.length = some j) (hp : l[j]? = some (.str a)) (hab : (a != b) = true) (h : WPS G F ρ σ bd (fun ρ' σ' => WPS G F ρ' σ' rest N Rt) Rt) (hk : (decide (-9 ≤ k) && decide (k ≤ 9) && !(x == ("__debug__" : Str)) && !(x == ("__classdict__" : Str))) = true := by decide) : WPS G F ρ σ (.If (.Compare (.Subscript (.Name x px) (.Constant (.int k) tk kp) pos) [.NotEq] [.Constant (.str b) tb bp] cpos) bd el ip :: rest) N Rt :=
  WPS.ifTagNe e hj hp ⟨fun _ => h, fun z => by rw [hab] at z; cases z⟩ hk
theorem WPS.ifTagNeF {x a b : Str} {px kp pos bp cpos ip : Pos} {k : Int} {tk tb j : Nat} {l : List PV} {bd el rest : List Stmt} {N : PEnv → List Cell → Prop} {Rt : PV → List Cell → Prop} (e : ρ.lookup x = some (.tup l)) (hj : seqIndex? k l.length = some j) (hp : l[j]? = some (.str a)) (hab : (a != b) = false) (h : WPS G F ρ σ el (fun ρ' σ' => WPS G F ρ' σ' rest N Rt) Rt) (hk : (decide (-9 ≤ k) && decide (k ≤ 9) && !(x == ("__debug__" : Str)) && !(x == ("__classdict__" : Str))) = true := by decide) : WPS G F ρ σ (.If (.Compare (.Subscript (.Name x px) (.Constant (.int k) tk kp) pos) [.NotEq] [.Constant (.str b) tb bp] cpos) bd el ip :: rest) N Rt :=
  WPS.ifTagNe e hj hp ⟨fun z => by (rw [hab] at z; cases z), fun _ => h⟩ hk
theorem WPS.ifTagNeF0 {x a b : Str} {px kp pos bp cpos ip : Pos} {k : Int} {tk tb j : Nat} {l : List PV} {bd rest : List Stmt} {N : PEnv → List Cell → Prop} {Rt : PV → List Cell → Prop} (e : ρ.lookup x = some (.tup l)) (hj : seqIndex? k l.length = some j) (hp : l[j]? = some (.str a)) (hab : (a != b) = false) (h : WPS G F ρ σ rest N Rt) (hk : (decide (-9 ≤ k) && decide (k ≤ 9) && !(x == ("__debug__" : Str)) && !(x == ("__classdict__" : Str))) = true := by decide) : WPS G F ρ σ (.If (.Compare (.Subscript (.Name x px) (.Constant (.int k) tk kp) pos) [.NotEq] [.Constant (.str b) tb bp] cpos) bd [] ip :: rest) N Rt :=
  WPS.ifTagNeF e hj hp hab (WPS.nil h) hk
theorem WPS.ifIsT {x a b : Str} {px bp cpos ip : Pos} {tb : Nat} {bd el rest : List Stmt} {N : PEnv → List Cell → Prop} {Rt : PV → List Cell → Prop} (e : ρ.lookup x = some (.str a)) (hab : (a == b) = true) (h : WPS G F ρ σ bd (fun ρ' σ' => WPS G F ρ' σ' rest N Rt) Rt) (hk : (!(x == ("__debug__" : Str)) && !(x == ("__classdict__" : Str))) = true := by decide) : WPS G F ρ σ (.If (.Compare (.Name x px) [.Eq] [.Constant (.str b) tb bp] cpos) bd el ip :: rest) N Rt :=
  WPS.ifIs e ⟨fun _ => h, fun z => by rw [hab] at z; cases z⟩ hk
theorem WPS.ifIsF {x a b : Str} {px bp cpos ip : Pos} {tb : Nat} {bd el rest : List Stmt} {N : PEnv → List Cell → Prop} {Rt : PV → List Cell → Prop} (e : ρ.lookup x = some (.str a)) (hab : (a == b) = false) (h : WPS G F ρ σ el (fun ρ' σ' => WPS G F ρ' σ' rest N Rt) Rt) (hk : (!(x == ("__debug__" : Str)) && !(x == ("__classdict__" : Str))) = true := by decide) : WPS G F ρ σ (.If (.Compare (.Name x px) [.Eq] [.Constant (.str b) tb bp] cpos) bd el ip :: rest) N Rt :=
  WPS.ifIs e ⟨fun z => by (rw [hab] at z; cases z), fun _ => h⟩ hk
theorem WPS.ifIsF0 {x a b : Str} {px bp cpos ip : Pos} {tb : Nat} {bd rest : List Stmt} {N : PEnv → List Cell → Prop} {Rt : PV → List Cell → Prop} (e : ρ.lookup x = some (.str a)) (hab : (a == b) = false) (h : WPS G F ρ σ rest N Rt) (hk : (!(x == ("__debug__" : Str)) && !(x == ("__classdict__" : Str))) = true := by decide) : WPS G F ρ σ (.If (.Compare (.Name x px) [.Eq] [.Constant (.str b) tb bp] cpos) bd [] ip :: rest) N Rt :=
  WPS.ifIsF e hab (WPS.nil h) hk
/-- a tuple of names and constants -/
theorem WPE.tupArgs {es : List Expr} {k : Nat} {pos : Pos} {ps : List PV} {Q : PV → List Cell → Prop} (e : argsOf ρ es = some ps) (h : Q (.tup ps) σ) (hl : Nat.ble ps.length 1000 = true := by rfl) : WPE G F env ρ σ (.Tuple es k pos) Q :=
  WPE.tuple (WPL.args e ⟨Nat.le_of_ble_eq_true hl, h⟩)
theorem WPE.list0 {pos : Pos} {Q : PV → List Cell → Prop} (h : Q (.ref σ.length) (σ ++ [.list []])) : WPE G F env ρ σ (.List [] pos) Q := WPE.list (WPL.nil ⟨Nat.zero_le _, h⟩)
end

theorem Cl.u0pr {G : GX} {F : FX} {n n' : Nat} {f : Addr} {ps : List PV} {σ : List Cell} {Q : PV → List Cell → Prop} {a : PV} {R1 : List Cell → Prop} (h : Cl G n f ps σ fun p σ' => p = a ∧ R1 σ') (O : F.Ok G n') (k : ∀ σ', R1 σ' → Q (a) σ') (hn : Nat.ble n n' = true := by rfl) : OpN G F σ ps (fun vs => PySem.call (.ref f) vs) Q :=
  Cl.op (Cl.mono h (by rintro p σ' ⟨rfl, h1⟩; exact k _ h1)) (O.le (Nat.le_of_ble_eq_true hn))
theorem Cl.u0s {G : GX} {F : FX} {n n' : Nat} {f : Addr} {ps : List PV} {σ : List Cell} {Q : PV → List Cell → Prop} {b : List Cell} (h : Cl G n f ps σ fun p σ' => σ' = b) (O : F.Ok G n') (k : ∀ p, Q p (b)) (hn : Nat.ble n n' = true := by rfl) : OpN G F σ ps (fun vs => PySem.call (.ref f) vs) Q :=
  Cl.op (Cl.mono h (by rintro p σ' rfl; exact k _)) (O.le (Nat.le_of_ble_eq_true hn))
theorem Cl.u0ps {G : GX} {F : FX} {n n' : Nat} {f : Addr} {ps : List PV} {σ : List Cell} {Q : PV → List Cell → Prop} {a : PV} {b : List Cell} (h : Cl G n f ps σ fun p σ' => p = a ∧ σ' = b) (O : F.Ok G n') (k : Q (a) (b)) (hn : Nat.ble n n' = true := by rfl) : OpN G F σ ps (fun vs => PySem.call (.ref f) vs) Q :=
  Cl.op (Cl.mono h (by rintro p σ' ⟨rfl, rfl⟩; exact k )) (O.le (Nat.le_of_ble_eq_true hn))
theorem Cl.u1prrr {G : GX} {F : FX} {n n' : Nat} {f : Addr} {ps : List PV} {σ : List Cell} {Q : PV → List Cell → Prop} {A0 : Type} {a : A0 → PV} {R1 : A0 → List Cell → Prop} {R2 : A0 → List Cell → Prop} {R3 : A0 → List Cell → Prop} (h : Cl G n f ps σ fun p σ' => ∃ x0, p = a x0 ∧ R1 x0 σ' ∧ R2 x0 σ' ∧ R3 x0 σ') (O : F.Ok G n') (k : ∀ x0 σ', R1 x0 σ' → R2 x0 σ' → R3 x0 σ' → Q (a x0) σ') (hn : Nat.ble n n' = true := by rfl) : OpN G F σ ps (fun vs => PySem.call (.ref f) vs) Q :=
  Cl.op (Cl.mono h (by rintro p σ' ⟨x0, rfl, h1, h2, h3⟩; exact k _ _ h1 h2 h3)) (O.le (Nat.le_of_ble_eq_true hn))
theorem Cl.u0rr {G : GX} {F : FX} {n n' : Nat} {f : Addr} {ps : List PV} {σ : List Cell} {Q : PV → List Cell → Prop} {R0 : List Cell → Prop} {R1 : List Cell → Prop} (h : Cl G n f ps σ fun p σ' => R0 σ' ∧ R1 σ') (O : F.Ok G n') (k : ∀ p σ', R0 σ' → R1 σ' → Q p σ') (hn : Nat.ble n n' = true := by rfl) : OpN G F σ ps (fun vs => PySem.call (.ref f) vs) Q :=
  Cl.op (Cl.mono h (by rintro p σ' ⟨h0, h1⟩; exact k _ _ h0 h1)) (O.le (Nat.le_of_ble_eq_true hn))
theorem Cl.u2prrrr {G : GX} {F : FX} {n n' : Nat} {f : Addr} {ps : List PV} {σ : List Cell} {Q : PV → List Cell → Prop} {A0 : Type} {A1 : Type} {a : A0 → A1 → PV} {R1 : A0 → A1 → List Cell → Prop} {R2 : A0 → A1 → List Cell → Prop} {R3 : A0 → A1 → List Cell → Prop} {R4 : A0 → A1 → List Cell → Prop} (h : Cl G n f ps σ fun p σ' => ∃ x0 x1, p = a x0 x1 ∧ R1 x0 x1 σ' ∧ R2 x0 x1 σ' ∧ R3 x0 x1 σ' ∧ R4 x0 x1 σ') (O : F.Ok G n') (k : ∀ x0 x1 σ', R1 x0 x1 σ' → R2 x0 x1 σ' → R3 x0 x1 σ' → R4 x0 x1 σ' → Q (a x0 x1) σ') (hn : Nat.ble n n' = true := by rfl) : OpN G F σ ps (fun vs => PySem.call (.ref f) vs) Q :=
  Cl.op (Cl.mono h (by rintro p σ' ⟨x0, x1, rfl, h1, h2, h3, h4⟩; exact k _ _ _ h1 h2 h3 h4)) (O.le (Nat.le_of_ble_eq_true hn))
theorem Cl.u1prrrr {G : GX} {F : FX} {n n' : Nat} {f : Addr} {ps : List PV} {σ : List Cell} {Q : PV → List Cell → Prop} {A0 : Type} {a : A0 → PV} {R1 : A0 → List Cell → Prop} {R2 : A0 → List Cell → Prop} {R3 : A0 → List Cell → Prop} {R4 : A0 → List Cell → Prop} (h : Cl G n f ps σ fun p σ' => ∃ x0, p = a x0 ∧ R1 x0 σ' ∧ R2 x0 σ' ∧ R3 x0 σ' ∧ R4 x0 σ') (O : F.Ok G n') (k : ∀ x0 σ', R1 x0 σ' → R2 x0 σ' → R3 x0 σ' → R4 x0 σ' → Q (a x0) σ') (hn : Nat.ble n n' = true := by rfl) : OpN G F σ ps (fun vs => PySem.call (.ref f) vs) Q :=
  Cl.op (Cl.mono h (by rintro p σ' ⟨x0, rfl, h1, h2, h3, h4⟩; exact k _ _ h1 h2 h3 h4)) (O.le (Nat.le_of_ble_eq_true hn))
theorem Cl.u1rprr {G : GX} {F : FX} {n n' : Nat} {f : Addr} {ps : List PV} {σ : List Cell} {Q : PV → List Cell → Prop} {A0 : Type} {R0 : A0 → List Cell → Prop} {a : A0 → PV} {R2 : A0 → List Cell → Prop} {R3 : A0 → List Cell → Prop} (h : Cl G n f ps σ fun p σ' => ∃ x0, R0 x0 σ' ∧ p = a x0 ∧ R2 x0 σ' ∧ R3 x0 σ') (O : F.Ok G n') (k : ∀ x0 σ', R0 x0 σ' → R2 x0 σ' → R3 x0 σ' → Q (a x0) σ') (hn : Nat.ble n n' = true := by rfl) : OpN G F σ ps (fun vs => PySem.call (.ref f) vs) Q :=
  Cl.op (Cl.mono h (by rintro p σ' ⟨x0, h0, rfl, h2, h3⟩; exact k _ _ h0 h2 h3)) (O.le (Nat.le_of_ble_eq_true hn))
theorem Cl.u1rrr {G : GX} {F : FX} {n n' : Nat} {f : Addr} {ps : List PV} {σ : List Cell} {Q : PV → List Cell → Prop} {A0 : Type} {R0 : A0 → List Cell → Prop} {R1 : A0 → List Cell → Prop} {R2 : A0 → List Cell → Prop} (h : Cl G n f ps σ fun p σ' => ∃ x0, R0 x0 σ' ∧ R1 x0 σ' ∧ R2 x0 σ') (O : F.Ok G n') (k : ∀ x0 p σ', R0 x0 σ' → R1 x0 σ' → R2 x0 σ' → Q p σ') (hn : Nat.ble n n' = true := by rfl) : OpN G F σ ps (fun vs => PySem.call (.ref f) vs) Q :=
  Cl.op (Cl.mono h (by rintro p σ' ⟨x0, h0, h1, h2⟩; exact k _ _ _ h0 h1 h2)) (O.le (Nat.le_of_ble_eq_true hn))
theorem Cl.u5prrr {G : GX} {F : FX} {n n' : Nat} {f : Addr} {ps : List PV} {σ : List Cell} {Q : PV → List Cell → Prop} {A0 : Type} {A1 : Type} {A2 : Type} {A3 : Type} {A4 : Type} {a : A0 → A1 → A2 → A3 → A4 → PV} {R1 : A0 → A1 → A2 → A3 → A4 → List Cell → Prop} {R2 : A0 → A1 → A2 → A3 → A4 → List Cell → Prop} {R3 : A0 → A1 → A2 → A3 → A4 → List Cell → Prop} (h : Cl G n f ps σ fun p σ' => ∃ x0 x1 x2 x3 x4, p = a x0 x1 x2 x3 x4 ∧ R1 x0 x1 x2 x3 x4 σ' ∧ R2 x0 x1 x2 x3 x4 σ' ∧ R3 x0 x1 x2 x3 x4 σ') (O : F.Ok G n') (k : ∀ x0 x1 x2 x3 x4 σ', R1 x0 x1 x2 x3 x4 σ' → R2 x0 x1 x2 x3 x4 σ' → R3 x0 x1 x2 x3 x4 σ' → Q (a x0 x1 x2 x3 x4) σ') (hn : Nat.ble n n' = true := by rfl) : OpN G F σ ps (fun vs => PySem.call (.ref f) vs) Q :=
  Cl.op (Cl.mono h (by rintro p σ' ⟨x0, x1, x2, x3, x4, rfl, h1, h2, h3⟩; exact k _ _ _ _ _ _ h1 h2 h3)) (O.le (Nat.le_of_ble_eq_true hn))
theorem Cl.u2prrrrr {G : GX} {F : FX} {n n' : Nat} {f : Addr} {ps : List PV} {σ : List Cell} {Q : PV → List Cell → Prop} {A0 : Type} {A1 : Type} {a : A0 → A1 → PV} {R1 : A0 → A1 → List Cell → Prop} {R2 : A0 → A1 → List Cell → Prop} {R3 : A0 → A1 → List Cell → Prop} {R4 : A0 → A1 → List Cell → Prop} {R5 : A0 → A1 → List Cell → Prop} (h : Cl G n f ps σ fun p σ' => ∃ x0 x1, p = a x0 x1 ∧ R1 x0 x1 σ' ∧ R2 x0 x1 σ' ∧ R3 x0 x1 σ' ∧ R4 x0 x1 σ' ∧ R5 x0 x1 σ') (O : F.Ok G n') (k : ∀ x0 x1 σ', R1 x0 x1 σ' → R2 x0 x1 σ' → R3 x0 x1 σ' → R4 x0 x1 σ' → R5 x0 x1 σ' → Q (a x0 x1) σ') (hn : Nat.ble n n' = true := by rfl) : OpN G F σ ps (fun vs => PySem.call (.ref f) vs) Q :=
  Cl.op (Cl.mono h (by rintro p σ' ⟨x0, x1, rfl, h1, h2, h3, h4, h5⟩; exact k _ _ _ h1 h2 h3 h4 h5)) (O.le (Nat.le_of_ble_eq_true hn))
theorem Cl.u5prrrrr {G : GX} {F : FX} {n n' : Nat} {f : Addr} {ps : List PV} {σ : List Cell} {Q : PV → List Cell → Prop} {A0 : Type} {A1 : Type} {A2 : Type} {A3 : Type} {A4 : Type} {a : A0 → A1 → A2 → A3 → A4 → PV} {R1 : A0 → A1 → A2 → A3 → A4 → List Cell → Prop} {R2 : A0 → A1 → A2 → A3 → A4 → List Cell → Prop} {R3 : A0 → A1 → A2 → A3 → A4 → List Cell → Prop} {R4 : A0 → A1 → A2 → A3 → A4 → List Cell → Prop} {R5 : A0 → A1 → A2 → A3 → A4 → List Cell → Prop} (h : Cl G n f ps σ fun p σ' => ∃ x0 x1 x2 x3 x4, p = a x0 x1 x2 x3 x4 ∧ R1 x0 x1 x2 x3 x4 σ' ∧ R2 x0 x1 x2 x3 x4 σ' ∧ R3 x0 x1 x2 x3 x4 σ' ∧ R4 x0 x1 x2 x3 x4 σ' ∧ R5 x0 x1 x2 x3 x4 σ') (O : F.Ok G n') (k : ∀ x0 x1 x2 x3 x4 σ', R1 x0 x1 x2 x3 x4 σ' → R2 x0 x1 x2 x3 x4 σ' → R3 x0 x1 x2 x3 x4 σ' → R4 x0 x1 x2 x3 x4 σ' → R5 x0 x1 x2 x3 x4 σ' → Q (a x0 x1 x2 x3 x4) σ') (hn : Nat.ble n n' = true := by rfl) : OpN G F σ ps (fun vs => PySem.call (.ref f) vs) Q :=
  Cl.op (Cl.mono h (by rintro p σ' ⟨x0, x1, x2, x3, x4, rfl, h1, h2, h3, h4, h5⟩; exact k _ _ _ _ _ _ h1 h2 h3 h4 h5)) (O.le (Nat.le_of_ble_eq_true hn))
theorem Cl.u2prrrrrr {G : GX} {F : FX} {n n' : Nat} {f : Addr} {ps : List PV} {σ : List Cell} {Q : PV → List Cell → Prop} {A0 : Type} {A1 : Type} {a : A0 → A1 → PV} {R1 : A0 → A1 → List Cell → Prop} {R2 : A0 → A1 → List Cell → Prop} {R3 : A0 → A1 → List Cell → Prop} {R4 : A0 → A1 → List Cell → Prop} {R5 : A0 → A1 → List Cell → Prop} {R6 : A0 → A1 → List Cell → Prop} (h : Cl G n f ps σ fun p σ' => ∃ x0 x1, p = a x0 x1 ∧ R1 x0 x1 σ' ∧ R2 x0 x1 σ' ∧ R3 x0 x1 σ' ∧ R4 x0 x1 σ' ∧ R5 x0 x1 σ' ∧ R6 x0 x1 σ') (O : F.Ok G n') (k : ∀ x0 x1 σ', R1 x0 x1 σ' → R2 x0 x1 σ' → R3 x0 x1 σ' → R4 x0 x1 σ' → R5 x0 x1 σ' → R6 x0 x1 σ' → Q (a x0 x1) σ') (hn : Nat.ble n n' = true := by rfl) : OpN G F σ ps (fun vs => PySem.call (.ref f) vs) Q :=
  Cl.op (Cl.mono h (by rintro p σ' ⟨x0, x1, rfl, h1, h2, h3, h4, h5, h6⟩; exact k _ _ _ h1 h2 h3 h4 h5 h6)) (O.le (Nat.le_of_ble_eq_true hn))
theorem Cl.u1rrprr {G : GX} {F : FX} {n n' : Nat} {f : Addr} {ps : List PV} {σ : List Cell} {Q : PV → List Cell → Prop} {A0 : Type} {R0 : A0 → List Cell → Prop} {R1 : A0 → List Cell → Prop} {a : A0 → PV} {R3 : A0 → List Cell → Prop} {R4 : A0 → List Cell → Prop} (h : Cl G n f ps σ fun p σ' => ∃ x0, R0 x0 σ' ∧ R1 x0 σ' ∧ p = a x0 ∧ R3 x0 σ' ∧ R4 x0 σ') (O : F.Ok G n') (k : ∀ x0 σ', R0 x0 σ' → R1 x0 σ' → R3 x0 σ' → R4 x0 σ' → Q (a x0) σ') (hn : Nat.ble n n' = true := by rfl) : OpN G F σ ps (fun vs => PySem.call (.ref f) vs) Q :=
  Cl.op (Cl.mono h (by rintro p σ' ⟨x0, h0, h1, rfl, h3, h4⟩; exact k _ _ h0 h1 h3 h4)) (O.le (Nat.le_of_ble_eq_true hn))
end Mine
end
section
open PySem PySem.W PyProof.Rows
namespace Mine
noncomputable abbrev pw : Program := PySem.Challenge.pw_up0060_01
noncomputable def st (i : Nat) : Stmt := (pw.main.body[i]?).getD default
noncomputable def fA : Stmt → Arguments
  | .FunctionDef _ a _ _ _ _ _ _ _ _ => a
  | _ => default
noncomputable def fB : Stmt → List Stmt
  | .FunctionDef _ _ b _ _ _ _ _ _ _ => b
  | .ClassDef _ _ _ b _ _ _ _ _ _ _ => b
  | _ => []
noncomputable def fS : Stmt → Scope
  | .FunctionDef _ _ _ _ _ _ s _ _ _ => s
  | _ => default
noncomputable def me (i j : Nat) : Stmt := ((fB (st i))[j]?).getD default
noncomputable abbrev sv (x : String) (t : Nat) : Value := .str (Str.ofString x) t
noncomputable abbrev r (a : Nat) : Value := .ref a
noncomputable abbrev E (P : Params) (x : String) (t : Nat) (v : Value) : DictEntry := ⟨PyData.keyHash P (Str.ofString x), .str (Str.ofString x) t, v⟩
noncomputable abbrev tu (l : List Value) : Obj := ⟨.type "tuple", none, .seq l.toArray 0, List.toArray []⟩
noncomputable abbrev co (l : List Value) : Obj := ⟨.type "code", none, .fields l.toArray, List.toArray []⟩
noncomputable abbrev fi (l : List Value) : Obj := ⟨.none, none, .fields l.toArray, List.toArray []⟩
noncomputable abbrev fn (s : Stmt) (n q : String) (g : Nat) (cl : List (Str × Nat)) (dV kV doc pm : Value) (an : Option Nat) (cd ct : Value) (b : Nat) : Data := .func ⟨Str.ofString n, Str.ofString q, fA s, .stmts (fB s), fS s, g, cl, dV, kV, doc, pm, an, cd, ct, b⟩
noncomputable def nd (n i : Nat) (o : Obj) (l r : BT) : BT := match Nat.blt i n with
  | true => .node o l r
  | false => .nil
noncomputable def o2 (P : Params) : Obj := ⟨.none, none, (.dict (List.toArray [E P "type.__subclasses__.Exception.0" 224 (.int 39 0), E P "type.__subclasses__.Exception.n" 225 (.int 1 0)]) 2), List.toArray []⟩
noncomputable def mainEs (P : Params) : List DictEntry := [E P "__name__" 165 (sv "law_up0060_01" 776), E P "__doc__" 166 .none, E P "__package__" 167 .none, E P "__loader__" 168 (.builtin "__main__.__loader__#opaque"), E P "__spec__" 169 .none, E P "__annotations__" 170 (r 6), E P "__builtins__" 171 (r 4), E P "__file__" 173 (sv "/claim/cut.py" 172), E P "__cached__" 174 .none, E P "_wall" 193 (r 21), E P "LendError" 227 (r 39), E P "TypeFault" 243 (r 52), E P "BITS" 273 (r 55), E P "is_signed" 280 (r 62), E P "least" 287 (r 69), E P "greatest" 294 (r 76), E P "fits" 302 (r 83), E P "wrapped" 311 (r 90), E P "cast_int" 319 (r 97), E P "cut_quotient" 328 (r 104), E P "exact" 337 (r 111), E P "checked" 348 (r 118), E P "shifted" 360 (r 125), E P "compared" 369 (r 132), E P "Body" 457 (r 193), E P "successors" 463 (r 202), E P "copied" 469 (r 207), E P "operands_of" 477 (r 214), E P "with_operands" 486 (r 221), E P "COMPARED" 495 (r 222), E P "PLAIN" 498 (r 223), E P "is_followed" 504 (r 228), E P "lent_locals" 515 (r 235), E P "Facts" 570 (r 273), E P "reckoned_binary" 580 (r 284), E P "Constants" 760 (r 396), E P "with_constants" 775 (r 407), E P "_law_pool" 786 (r 414), E P "_law_take" 795 (r 421), E P "_law_one" 803 (r 428), E P "_law_byte" 809 (r 435), E P "_law_types" 815 (r 440), E P "_law_part" 822 (r 447), E P "_law_operand" 830 (r 454), E P "_law_row" 839 (r 461), E P "_law_end" 849 (r 468), E P "_law_blocks" 855 (r 473), E P "_law_worth" 865 (r 480), E P "_law_told" 874 (r 487), E P "_law_made" 880 (r 492), E P "_law_behind" 886 (r 497), E P "_law_due" 892 (r 502), E P "_law_is_so" 898 (r 507), E P "law" 904 (r 512)]
noncomputable def o3 (P : Params) : Obj := ⟨(.type "dict"), none, .dict (mainEs P).toArray 54, List.toArray []⟩
noncomputable def x3 (m : Nat) (v : Value) (P : Params) : Obj := ⟨(.type "dict"), none, .dict (E P "__name__" 165 v :: ((mainEs P).drop 1).take (m - 1)).toArray m, List.toArray []⟩
noncomputable def o11 (P : Params) : Obj := tu []
noncomputable def codeVs : List Value := [(.int 1 0), (.int 0 0), (r 20), (.int 5 0), (.int 0 0), (r 27), (.int 11 0), (.int 0 0), (r 48), (.int 15 0), (.int 0 0), (r 61), (.int 17 0), (.int 0 0), (r 68), (.int 19 0), (.int 0 0), (r 75), (.int 21 0), (.int 0 0), (r 82), (.int 23 0), (.int 0 0), (r 89), (.int 26 0), (.int 0 0), (r 96), (.int 28 0), (.int 0 0), (r 103), (.int 31 0), (.int 0 0), (r 110), (.int 49 0), (.int 0 0), (r 117), (.int 58 0), (.int 0 0), (r 124), (.int 62 0), (.int 0 0), (r 131), (.int 77 0), (.int 0 0), (r 138), (.int 103 0), (.int 0 0), (r 201), (.int 122 0), (.int 0 0), (r 206), (.int 125 0), (.int 0 0), (r 213), (.int 138 0), (.int 0 0), (r 220), (.int 154 0), (.int 0 0), (r 227), (.int 158 0), (.int 0 0), (r 234), (.int 165 0), (.int 0 0), (r 241), (.int 185 0), (.int 0 0), (r 283), (.int 191 0), (.int 0 0), (r 290), (.int 340 0), (.int 0 0), (r 406), (.int 354 0), (.int 0 0), (r 413), (.int 358 0), (.int 0 0), (r 420), (.int 365 0), (.int 0 0), (r 427), (.int 367 0), (.int 0 0), (r 434), (.int 369 0), (.int 0 0), (r 439), (.int 373 0), (.int 0 0), (r 446), (.int 375 0), (.int 0 0), (r 453), (.int 380 0), (.int 0 0), (r 460), (.int 393 0), (.int 0 0), (r 467), (.int 398 0), (.int 0 0), (r 472), (.int 407 0), (.int 0 0), (r 479), (.int 412 0), (.int 0 0), (r 486), (.int 415 0), (.int 0 0), (r 491), (.int 423 0), (.int 0 0), (r 496), (.int 435 0), (.int 0 0), (r 501), (.int 449 0), (.int 0 0), (r 506), (.int 453 0), (.int 0 0), (r 511)]
noncomputable def o12 (_ : Params) : Obj := ⟨.none, none, .fields codeVs.toArray, List.toArray []⟩
noncomputable def x12 (m : Nat) : Obj := ⟨.none, none, .fields (codeVs.take m).toArray, List.toArray []⟩
noncomputable def o13 (P : Params) : Obj := co [(sv "<module>" 182), (sv "<module>" 183), (sv "/claim/cut.py" 184), (.int 1 0), (.int 0 0), (.int 0 0), (.int 0 0), (.int 0 0), (r 11), (.bool false), (.int 181 0), (r 12), .none, .none, .none, .none, (.int 185 0), (.int 1 0), (sv "/claim/cut.py" 186)]
noncomputable def o14 (P : Params) : Obj := ⟨(.type "frame"), none, .plain, List.toArray [some (r 13), some (r 3), some (r 3), none, some (sv "__main__" 164), none, some (r 0)]⟩
noncomputable def o15 (P : Params) : Obj := tu []
noncomputable def o16 (P : Params) : Obj := fi []
noncomputable def o17 (P : Params) : Obj := tu [(sv "k" 190)]
noncomputable def o18 (P : Params) : Obj := tu []
noncomputable def o19 (P : Params) : Obj := ⟨.none, none, (fn (st 0) "_wall" "_wall" 0 [] .none .none .none .none none .none .none 0), List.toArray []⟩
noncomputable def o20 (P : Params) : Obj := co [(sv "_wall" 187), (sv "_wall" 188), (sv "/claim/cut.py" 189), (.int 1 0), (.int 1 0), (.int 0 0), (.int 0 0), (.int 3 0), (r 15), (.bool true), (.int 181 0), (r 16), .none, (r 17), (r 18), (r 19), (.int 191 0), (.int 1 0), (sv "/claim/cut.py" 192)]
noncomputable def o21 (P : Params) : Obj := ⟨(.type "function"), none, (fn (st 0) "_wall" "_wall" 3 [] .none .none .none (sv "__main__" 164) none (r 20) .none 0), List.toArray []⟩
noncomputable def o22 (P : Params) : Obj := tu [(.type "Exception")]
noncomputable def o23 (P : Params) : Obj := ⟨(.type "builtin_function_or_method"), none, (.fields (List.toArray [(.builtin "type.__prepare__"), (.type "type")])), List.toArray []⟩
noncomputable def o24 (P : Params) : Obj := ⟨(.type "dict"), none, (.dict (List.toArray [E P "__module__" 203 (sv "lendcore.errors" 194), E P "__qualname__" 205 (sv "LendError" 204), E P "__firstlineno__" 207 (.int 5 206), E P "__init__" 217 (r 36), E P "__static_attributes__" 220 (r 37)]) 5), List.toArray []⟩
noncomputable def o25 (P : Params) : Obj := tu []
noncomputable def o26 (P : Params) : Obj := fi [(.int 7 0), (.int 4 0), (r 35)]
noncomputable def o27 (P : Params) : Obj := co [(sv "LendError" 198), (sv "LendError" 199), (sv "/claim/cut.py" 200), (.int 5 0), (.int 0 0), (.int 0 0), (.int 0 0), (.int 0 0), (r 25), (.bool false), (.int 181 0), (r 26), .none, .none, .none, .none, (.int 201 0), (.int 5 0), (sv "/claim/cut.py" 202)]
noncomputable def o28 (P : Params) : Obj := ⟨(.type "frame"), none, .plain, List.toArray [some (r 27), some (r 3), some (r 24), none, some (sv "lendcore.errors" 194), none, some (r 0)]⟩
noncomputable def o29 (P : Params) : Obj := tu [(.int 0 208)]
noncomputable def o30 (P : Params) : Obj := tu []
noncomputable def o31 (P : Params) : Obj := fi []
noncomputable def o32 (P : Params) : Obj := tu [(sv "self" 212), (sv "message" 213), (sv "spot" 214)]
noncomputable def o33 (P : Params) : Obj := tu []
noncomputable def o34 (P : Params) : Obj := ⟨.none, none, (fn (me 2 0) "__init__" "LendError.__init__" 0 [] .none .none .none .none none .none .none 0), List.toArray []⟩
noncomputable def o35 (P : Params) : Obj := co [(sv "__init__" 209), (sv "LendError.__init__" 210), (sv "/claim/cut.py" 211), (.int 7 0), (.int 3 0), (.int 0 0), (.int 0 0), (.int 3 0), (r 30), (.bool true), (.int 181 0), (r 31), .none, (r 32), (r 33), (r 34), (.int 215 0), (.int 7 0), (sv "/claim/cut.py" 216)]
noncomputable def o36 (P : Params) : Obj := ⟨(.type "function"), none, (fn (me 2 0) "__init__" "LendError.__init__" 3 [] (r 29) .none .none (sv "lendcore.errors" 194) none (r 35) .none 0), List.toArray []⟩
noncomputable def o37 (P : Params) : Obj := tu [(sv "message" 218), (sv "spot" 219)]
noncomputable def o38 (P : Params) : Obj := ⟨(.type "dict"), none, (.dict (List.toArray [E P "__module__" 203 (sv "lendcore.errors" 194), E P "__firstlineno__" 207 (.int 5 206), E P "__init__" 217 (r 36), E P "__static_attributes__" 220 (r 37), E P "__weakref__" 222 (r 40), E P "__doc__" 223 .none]) 3), List.toArray []⟩
noncomputable def o39 (P : Params) : Obj := ⟨(.type "type"), none, (.cls { name := .ofString "LendError", bases := [(.type "Exception")], mro := [(r 39), (.type "Exception"), (.type "BaseException"), (.type "object")], ns := 38, qualname := .ofString "LendError", hasDict := true, slotNames := [], subclasses := [(r 52)], abstract := false, collection := none, hasDel := false }), List.toArray [some (r 22), none, some (sv "LendError" 196), some (sv "LendError" 204), some (.builtin "Exception.__new__"), some (.bool true)]⟩
noncomputable def o40 (P : Params) : Obj := ⟨(.type "getset_descriptor"), none, (.fields (List.toArray [(sv "__weakref__" 221), (r 39), (.builtin "ExceptionGroup.__weakref__"), .none])), List.toArray []⟩
noncomputable def o41 (P : Params) : Obj := ⟨(.type "super"), none, (.fields (List.toArray [(r 39), (r 39), (r 39)])), List.toArray []⟩
noncomputable def o42 (P : Params) : Obj := ⟨(.type "builtin_function_or_method"), none, (.fields (List.toArray [(.builtin "object.__init_subclass__"), (r 39)])), List.toArray []⟩
noncomputable def o43 (P : Params) : Obj := tu [(r 39)]
noncomputable def o44 (P : Params) : Obj := ⟨(.type "builtin_function_or_method"), none, (.fields (List.toArray [(.builtin "type.__prepare__"), (.type "type")])), List.toArray []⟩
noncomputable def o45 (P : Params) : Obj := ⟨(.type "dict"), none, (.dict (List.toArray [E P "__module__" 235 (sv "lendcore.errors" 194), E P "__qualname__" 237 (sv "TypeFault" 236), E P "__firstlineno__" 239 (.int 11 238), E P "__static_attributes__" 240 (r 50)]) 4), List.toArray []⟩
noncomputable def o46 (P : Params) : Obj := tu []
noncomputable def o47 (P : Params) : Obj := fi []
noncomputable def o48 (P : Params) : Obj := co [(sv "TypeFault" 230), (sv "TypeFault" 231), (sv "/claim/cut.py" 232), (.int 11 0), (.int 0 0), (.int 0 0), (.int 0 0), (.int 0 0), (r 46), (.bool false), (.int 181 0), (r 47), .none, .none, .none, .none, (.int 233 0), (.int 11 0), (sv "/claim/cut.py" 234)]
noncomputable def o49 (P : Params) : Obj := ⟨(.type "frame"), none, .plain, List.toArray [some (r 48), some (r 3), some (r 45), none, some (sv "lendcore.errors" 194), none, some (r 0)]⟩
noncomputable def o50 (P : Params) : Obj := tu []
noncomputable def o51 (P : Params) : Obj := ⟨(.type "dict"), none, (.dict (List.toArray [E P "__module__" 235 (sv "lendcore.errors" 194), E P "__firstlineno__" 239 (.int 11 238), E P "__static_attributes__" 240 (r 50), E P "__doc__" 241 .none]) 2), List.toArray []⟩
noncomputable def o52 (P : Params) : Obj := ⟨(.type "type"), none, (.cls { name := .ofString "TypeFault", bases := [(r 39)], mro := [(r 52), (r 39), (.type "Exception"), (.type "BaseException"), (.type "object")], ns := 51, qualname := .ofString "TypeFault", hasDict := true, slotNames := [], subclasses := [], abstract := false, collection := none, hasDel := false }), List.toArray [some (r 43), none, some (sv "TypeFault" 228), some (sv "TypeFault" 236), some (.builtin "Exception.__new__"), some (.bool true)]⟩
noncomputable def o53 (P : Params) : Obj := ⟨(.type "super"), none, (.fields (List.toArray [(r 52), (r 52), (r 52)])), List.toArray []⟩
noncomputable def o54 (P : Params) : Obj := ⟨(.type "builtin_function_or_method"), none, (.fields (List.toArray [(.builtin "object.__init_subclass__"), (r 52)])), List.toArray []⟩
noncomputable def o55 (P : Params) : Obj := ⟨(.type "dict"), none, (.dict (List.toArray [E P "i8" 246 (.int 8 247), E P "i16" 248 (.int 16 249), E P "i32" 250 (.int 32 251), E P "i64" 252 (.int 64 253), E P "u8" 254 (.int 8 255), E P "u16" 256 (.int 16 257), E P "u32" 258 (.int 32 259), E P "u64" 260 (.int 64 261), E P "usize" 262 (.int 64 263)]) 9), List.toArray []⟩
noncomputable def o56 (P : Params) : Obj := tu []
noncomputable def o57 (P : Params) : Obj := fi []
noncomputable def o58 (P : Params) : Obj := tu [(sv "kind" 277)]
noncomputable def o59 (P : Params) : Obj := tu []
noncomputable def o60 (P : Params) : Obj := ⟨.none, none, (fn (st 6) "is_signed" "is_signed" 0 [] .none .none .none .none none .none .none 0), List.toArray []⟩
noncomputable def o61 (P : Params) : Obj := co [(sv "is_signed" 274), (sv "is_signed" 275), (sv "/claim/cut.py" 276), (.int 15 0), (.int 1 0), (.int 0 0), (.int 0 0), (.int 3 0), (r 56), (.bool true), (.int 181 0), (r 57), .none, (r 58), (r 59), (r 60), (.int 278 0), (.int 15 0), (sv "/claim/cut.py" 279)]
noncomputable def o62 (P : Params) : Obj := ⟨(.type "function"), none, (fn (st 6) "is_signed" "is_signed" 3 [] .none .none .none (sv "lendcore.integers" 244) none (r 61) .none 0), List.toArray []⟩
noncomputable def o63 (P : Params) : Obj := tu []
noncomputable def o64 (P : Params) : Obj := fi []
noncomputable def o65 (P : Params) : Obj := tu [(sv "kind" 284)]
noncomputable def o66 (P : Params) : Obj := tu []
noncomputable def o67 (P : Params) : Obj := ⟨.none, none, (fn (st 7) "least" "least" 0 [] .none .none .none .none none .none .none 0), List.toArray []⟩
noncomputable def o68 (P : Params) : Obj := co [(sv "least" 281), (sv "least" 282), (sv "/claim/cut.py" 283), (.int 17 0), (.int 1 0), (.int 0 0), (.int 0 0), (.int 3 0), (r 63), (.bool true), (.int 181 0), (r 64), .none, (r 65), (r 66), (r 67), (.int 285 0), (.int 17 0), (sv "/claim/cut.py" 286)]
noncomputable def o69 (P : Params) : Obj := ⟨(.type "function"), none, (fn (st 7) "least" "least" 3 [] .none .none .none (sv "lendcore.integers" 244) none (r 68) .none 0), List.toArray []⟩
noncomputable def o70 (P : Params) : Obj := tu []
noncomputable def o71 (P : Params) : Obj := fi []
noncomputable def o72 (P : Params) : Obj := tu [(sv "kind" 291)]
noncomputable def o73 (P : Params) : Obj := tu []
noncomputable def o74 (P : Params) : Obj := ⟨.none, none, (fn (st 8) "greatest" "greatest" 0 [] .none .none .none .none none .none .none 0), List.toArray []⟩
noncomputable def o75 (P : Params) : Obj := co [(sv "greatest" 288), (sv "greatest" 289), (sv "/claim/cut.py" 290), (.int 19 0), (.int 1 0), (.int 0 0), (.int 0 0), (.int 3 0), (r 70), (.bool true), (.int 181 0), (r 71), .none, (r 72), (r 73), (r 74), (.int 292 0), (.int 19 0), (sv "/claim/cut.py" 293)]
noncomputable def o76 (P : Params) : Obj := ⟨(.type "function"), none, (fn (st 8) "greatest" "greatest" 3 [] .none .none .none (sv "lendcore.integers" 244) none (r 75) .none 0), List.toArray []⟩
noncomputable def o77 (P : Params) : Obj := tu []
noncomputable def o78 (P : Params) : Obj := fi []
noncomputable def o79 (P : Params) : Obj := tu [(sv "kind" 298), (sv "number" 299)]
noncomputable def o80 (P : Params) : Obj := tu []
noncomputable def o81 (P : Params) : Obj := ⟨.none, none, (fn (st 9) "fits" "fits" 0 [] .none .none .none .none none .none .none 0), List.toArray []⟩
noncomputable def o82 (P : Params) : Obj := co [(sv "fits" 295), (sv "fits" 296), (sv "/claim/cut.py" 297), (.int 21 0), (.int 2 0), (.int 0 0), (.int 0 0), (.int 3 0), (r 77), (.bool true), (.int 181 0), (r 78), .none, (r 79), (r 80), (r 81), (.int 300 0), (.int 21 0), (sv "/claim/cut.py" 301)]
noncomputable def o83 (P : Params) : Obj := ⟨(.type "function"), none, (fn (st 9) "fits" "fits" 3 [] .none .none .none (sv "lendcore.integers" 244) none (r 82) .none 0), List.toArray []⟩
noncomputable def o84 (P : Params) : Obj := tu []
noncomputable def o85 (P : Params) : Obj := fi []
noncomputable def o86 (P : Params) : Obj := tu [(sv "kind" 306), (sv "number" 307), (sv "low" 308)]
noncomputable def o87 (P : Params) : Obj := tu []
noncomputable def o88 (P : Params) : Obj := ⟨.none, none, (fn (st 10) "wrapped" "wrapped" 0 [] .none .none .none .none none .none .none 0), List.toArray []⟩
noncomputable def o89 (P : Params) : Obj := co [(sv "wrapped" 303), (sv "wrapped" 304), (sv "/claim/cut.py" 305), (.int 23 0), (.int 2 0), (.int 0 0), (.int 0 0), (.int 3 0), (r 84), (.bool true), (.int 181 0), (r 85), .none, (r 86), (r 87), (r 88), (.int 309 0), (.int 23 0), (sv "/claim/cut.py" 310)]
noncomputable def o90 (P : Params) : Obj := ⟨(.type "function"), none, (fn (st 10) "wrapped" "wrapped" 3 [] .none .none .none (sv "lendcore.integers" 244) none (r 89) .none 0), List.toArray []⟩
noncomputable def o91 (P : Params) : Obj := tu []
noncomputable def o92 (P : Params) : Obj := fi []
noncomputable def o93 (P : Params) : Obj := tu [(sv "kind" 315), (sv "number" 316)]
noncomputable def o94 (P : Params) : Obj := tu []
noncomputable def o95 (P : Params) : Obj := ⟨.none, none, (fn (st 11) "cast_int" "cast_int" 0 [] .none .none .none .none none .none .none 0), List.toArray []⟩
noncomputable def o96 (P : Params) : Obj := co [(sv "cast_int" 312), (sv "cast_int" 313), (sv "/claim/cut.py" 314), (.int 26 0), (.int 2 0), (.int 0 0), (.int 0 0), (.int 3 0), (r 91), (.bool true), (.int 181 0), (r 92), .none, (r 93), (r 94), (r 95), (.int 317 0), (.int 26 0), (sv "/claim/cut.py" 318)]
noncomputable def o97 (P : Params) : Obj := ⟨(.type "function"), none, (fn (st 11) "cast_int" "cast_int" 3 [] .none .none .none (sv "lendcore.integers" 244) none (r 96) .none 0), List.toArray []⟩
noncomputable def o98 (P : Params) : Obj := tu []
noncomputable def o99 (P : Params) : Obj := fi []
noncomputable def o100 (P : Params) : Obj := tu [(sv "a" 323), (sv "b" 324), (sv "found" 325)]
noncomputable def o101 (P : Params) : Obj := tu []
noncomputable def o102 (P : Params) : Obj := ⟨.none, none, (fn (st 12) "cut_quotient" "cut_quotient" 0 [] .none .none .none .none none .none .none 0), List.toArray []⟩
noncomputable def o103 (P : Params) : Obj := co [(sv "cut_quotient" 320), (sv "cut_quotient" 321), (sv "/claim/cut.py" 322), (.int 28 0), (.int 2 0), (.int 0 0), (.int 0 0), (.int 3 0), (r 98), (.bool true), (.int 181 0), (r 99), .none, (r 100), (r 101), (r 102), (.int 326 0), (.int 28 0), (sv "/claim/cut.py" 327)]
noncomputable def o104 (P : Params) : Obj := ⟨(.type "function"), none, (fn (st 12) "cut_quotient" "cut_quotient" 3 [] .none .none .none (sv "lendcore.integers" 244) none (r 103) .none 0), List.toArray []⟩
noncomputable def o105 (P : Params) : Obj := tu []
noncomputable def o106 (P : Params) : Obj := fi []
noncomputable def o107 (P : Params) : Obj := tu [(sv "op" 332), (sv "a" 333), (sv "b" 334)]
noncomputable def o108 (P : Params) : Obj := tu []
noncomputable def o109 (P : Params) : Obj := ⟨.none, none, (fn (st 13) "exact" "exact" 0 [] .none .none .none .none none .none .none 0), List.toArray []⟩
noncomputable def o110 (P : Params) : Obj := co [(sv "exact" 329), (sv "exact" 330), (sv "/claim/cut.py" 331), (.int 31 0), (.int 3 0), (.int 0 0), (.int 0 0), (.int 3 0), (r 105), (.bool true), (.int 181 0), (r 106), .none, (r 107), (r 108), (r 109), (.int 335 0), (.int 31 0), (sv "/claim/cut.py" 336)]
noncomputable def o111 (P : Params) : Obj := ⟨(.type "function"), none, (fn (st 13) "exact" "exact" 3 [] .none .none .none (sv "lendcore.integers" 244) none (r 110) .none 0), List.toArray []⟩
noncomputable def o112 (P : Params) : Obj := tu []
noncomputable def o113 (P : Params) : Obj := fi []
noncomputable def o114 (P : Params) : Obj := tu [(sv "kind" 341), (sv "op" 342), (sv "a" 343), (sv "b" 344), (sv "found" 345)]
noncomputable def o115 (P : Params) : Obj := tu []
noncomputable def o116 (P : Params) : Obj := ⟨.none, none, (fn (st 14) "checked" "checked" 0 [] .none .none .none .none none .none .none 0), List.toArray []⟩
noncomputable def o117 (P : Params) : Obj := co [(sv "checked" 338), (sv "checked" 339), (sv "/claim/cut.py" 340), (.int 49 0), (.int 4 0), (.int 0 0), (.int 0 0), (.int 3 0), (r 112), (.bool true), (.int 181 0), (r 113), .none, (r 114), (r 115), (r 116), (.int 346 0), (.int 49 0), (sv "/claim/cut.py" 347)]
noncomputable def o118 (P : Params) : Obj := ⟨(.type "function"), none, (fn (st 14) "checked" "checked" 3 [] .none .none .none (sv "lendcore.integers" 244) none (r 117) .none 0), List.toArray []⟩
noncomputable def o119 (P : Params) : Obj := tu []
noncomputable def o120 (P : Params) : Obj := fi []
noncomputable def o121 (P : Params) : Obj := tu [(sv "kind" 352), (sv "op" 353), (sv "a" 354), (sv "many" 355), (sv "places" 356), (sv "found" 357)]
noncomputable def o122 (P : Params) : Obj := tu []
noncomputable def o123 (P : Params) : Obj := ⟨.none, none, (fn (st 15) "shifted" "shifted" 0 [] .none .none .none .none none .none .none 0), List.toArray []⟩
noncomputable def o124 (P : Params) : Obj := co [(sv "shifted" 349), (sv "shifted" 350), (sv "/claim/cut.py" 351), (.int 58 0), (.int 4 0), (.int 0 0), (.int 0 0), (.int 3 0), (r 119), (.bool true), (.int 181 0), (r 120), .none, (r 121), (r 122), (r 123), (.int 358 0), (.int 58 0), (sv "/claim/cut.py" 359)]
noncomputable def o125 (P : Params) : Obj := ⟨(.type "function"), none, (fn (st 15) "shifted" "shifted" 3 [] .none .none .none (sv "lendcore.integers" 244) none (r 124) .none 0), List.toArray []⟩
noncomputable def o126 (P : Params) : Obj := tu []
noncomputable def o127 (P : Params) : Obj := fi []
noncomputable def o128 (P : Params) : Obj := tu [(sv "op" 364), (sv "a" 365), (sv "b" 366)]
noncomputable def o129 (P : Params) : Obj := tu []
noncomputable def o130 (P : Params) : Obj := ⟨.none, none, (fn (st 16) "compared" "compared" 0 [] .none .none .none .none none .none .none 0), List.toArray []⟩
noncomputable def o131 (P : Params) : Obj := co [(sv "compared" 361), (sv "compared" 362), (sv "/claim/cut.py" 363), (.int 62 0), (.int 3 0), (.int 0 0), (.int 0 0), (.int 3 0), (r 126), (.bool true), (.int 181 0), (r 127), .none, (r 128), (r 129), (r 130), (.int 367 0), (.int 62 0), (sv "/claim/cut.py" 368)]
noncomputable def o132 (P : Params) : Obj := ⟨(.type "function"), none, (fn (st 16) "compared" "compared" 3 [] .none .none .none (sv "lendcore.integers" 244) none (r 131) .none 0), List.toArray []⟩
noncomputable def o133 (P : Params) : Obj := tu []
noncomputable def o134 (P : Params) : Obj := ⟨(.type "builtin_function_or_method"), none, (.fields (List.toArray [(.builtin "type.__prepare__"), (.type "type")])), List.toArray []⟩
noncomputable def o135 (P : Params) : Obj := ⟨(.type "dict"), none, (.dict (List.toArray [E P "__module__" 379 (sv "lendcore.mir" 370), E P "__qualname__" 381 (sv "Body" 380), E P "__firstlineno__" 383 (.int 77 382), E P "__init__" 395 (r 147), E P "type_of" 403 (r 154), E P "args" 410 (r 161), E P "statements" 418 (r 168), E P "terminator" 426 (r 175), E P "spot" 434 (r 182), E P "new_local" 444 (r 190), E P "__static_attributes__" 450 (r 191)]) 11), List.toArray []⟩
noncomputable def o136 (P : Params) : Obj := tu []
noncomputable def o137 (P : Params) : Obj := fi [(.int 79 0), (.int 4 0), (r 146), (.int 86 0), (.int 4 0), (r 153), (.int 89 0), (.int 4 0), (r 160), (.int 92 0), (.int 4 0), (r 167), (.int 95 0), (.int 4 0), (r 174), (.int 98 0), (.int 4 0), (r 181), (.int 101 0), (.int 4 0), (r 189)]
noncomputable def o138 (P : Params) : Obj := co [(sv "Body" 374), (sv "Body" 375), (sv "/claim/cut.py" 376), (.int 77 0), (.int 0 0), (.int 0 0), (.int 0 0), (.int 0 0), (r 136), (.bool false), (.int 181 0), (r 137), .none, .none, .none, .none, (.int 377 0), (.int 77 0), (sv "/claim/cut.py" 378)]
noncomputable def o139 (P : Params) : Obj := ⟨(.type "frame"), none, .plain, List.toArray [some (r 138), some (r 3), some (r 135), none, some (sv "lendcore.mir" 370), none, some (r 0)]⟩
noncomputable def o140 (P : Params) : Obj := tu [.none, .none]
noncomputable def o141 (P : Params) : Obj := tu []
noncomputable def o142 (P : Params) : Obj := fi []
noncomputable def o143 (P : Params) : Obj := tu [(sv "self" 387), (sv "name" 388), (sv "arg_count" 389), (sv "locals_told" 390), (sv "blocks" 391), (sv "spots" 392)]
noncomputable def o144 (P : Params) : Obj := tu []
noncomputable def o145 (P : Params) : Obj := ⟨.none, none, (fn (me 18 0) "__init__" "Body.__init__" 0 [] .none .none .none .none none .none .none 0), List.toArray []⟩
noncomputable def o146 (P : Params) : Obj := co [(sv "__init__" 384), (sv "Body.__init__" 385), (sv "/claim/cut.py" 386), (.int 79 0), (.int 6 0), (.int 0 0), (.int 0 0), (.int 3 0), (r 141), (.bool true), (.int 181 0), (r 142), .none, (r 143), (r 144), (r 145), (.int 393 0), (.int 79 0), (sv "/claim/cut.py" 394)]
noncomputable def o147 (P : Params) : Obj := ⟨(.type "function"), none, (fn (me 18 0) "__init__" "Body.__init__" 3 [] (r 140) .none .none (sv "lendcore.mir" 370) none (r 146) .none 0), List.toArray []⟩
noncomputable def o148 (P : Params) : Obj := tu []
noncomputable def o149 (P : Params) : Obj := fi []
noncomputable def o150 (P : Params) : Obj := tu [(sv "self" 399), (sv "local" 400)]
noncomputable def o151 (P : Params) : Obj := tu []
noncomputable def o152 (P : Params) : Obj := ⟨.none, none, (fn (me 18 1) "type_of" "Body.type_of" 0 [] .none .none .none .none none .none .none 0), List.toArray []⟩
noncomputable def o153 (P : Params) : Obj := co [(sv "type_of" 396), (sv "Body.type_of" 397), (sv "/claim/cut.py" 398), (.int 86 0), (.int 2 0), (.int 0 0), (.int 0 0), (.int 3 0), (r 148), (.bool true), (.int 181 0), (r 149), .none, (r 150), (r 151), (r 152), (.int 401 0), (.int 86 0), (sv "/claim/cut.py" 402)]
noncomputable def o154 (P : Params) : Obj := ⟨(.type "function"), none, (fn (me 18 1) "type_of" "Body.type_of" 3 [] .none .none .none (sv "lendcore.mir" 370) none (r 153) .none 0), List.toArray []⟩
noncomputable def o155 (P : Params) : Obj := tu []
noncomputable def o156 (P : Params) : Obj := fi []
noncomputable def o157 (P : Params) : Obj := tu [(sv "self" 407)]
noncomputable def o158 (P : Params) : Obj := tu []
noncomputable def o159 (P : Params) : Obj := ⟨.none, none, (fn (me 18 2) "args" "Body.args" 0 [] .none .none .none .none none .none .none 0), List.toArray []⟩
noncomputable def o160 (P : Params) : Obj := co [(sv "args" 404), (sv "Body.args" 405), (sv "/claim/cut.py" 406), (.int 89 0), (.int 1 0), (.int 0 0), (.int 0 0), (.int 3 0), (r 155), (.bool true), (.int 181 0), (r 156), .none, (r 157), (r 158), (r 159), (.int 408 0), (.int 89 0), (sv "/claim/cut.py" 409)]
noncomputable def o161 (P : Params) : Obj := ⟨(.type "function"), none, (fn (me 18 2) "args" "Body.args" 3 [] .none .none .none (sv "lendcore.mir" 370) none (r 160) .none 0), List.toArray []⟩
noncomputable def o162 (P : Params) : Obj := tu []
noncomputable def o163 (P : Params) : Obj := fi []
noncomputable def o164 (P : Params) : Obj := tu [(sv "self" 414), (sv "block" 415)]
noncomputable def o165 (P : Params) : Obj := tu []
noncomputable def o166 (P : Params) : Obj := ⟨.none, none, (fn (me 18 3) "statements" "Body.statements" 0 [] .none .none .none .none none .none .none 0), List.toArray []⟩
noncomputable def o167 (P : Params) : Obj := co [(sv "statements" 411), (sv "Body.statements" 412), (sv "/claim/cut.py" 413), (.int 92 0), (.int 2 0), (.int 0 0), (.int 0 0), (.int 3 0), (r 162), (.bool true), (.int 181 0), (r 163), .none, (r 164), (r 165), (r 166), (.int 416 0), (.int 92 0), (sv "/claim/cut.py" 417)]
noncomputable def o168 (P : Params) : Obj := ⟨(.type "function"), none, (fn (me 18 3) "statements" "Body.statements" 3 [] .none .none .none (sv "lendcore.mir" 370) none (r 167) .none 0), List.toArray []⟩
noncomputable def o169 (P : Params) : Obj := tu []
noncomputable def o170 (P : Params) : Obj := fi []
noncomputable def o171 (P : Params) : Obj := tu [(sv "self" 422), (sv "block" 423)]
noncomputable def o172 (P : Params) : Obj := tu []
noncomputable def o173 (P : Params) : Obj := ⟨.none, none, (fn (me 18 4) "terminator" "Body.terminator" 0 [] .none .none .none .none none .none .none 0), List.toArray []⟩
noncomputable def o174 (P : Params) : Obj := co [(sv "terminator" 419), (sv "Body.terminator" 420), (sv "/claim/cut.py" 421), (.int 95 0), (.int 2 0), (.int 0 0), (.int 0 0), (.int 3 0), (r 169), (.bool true), (.int 181 0), (r 170), .none, (r 171), (r 172), (r 173), (.int 424 0), (.int 95 0), (sv "/claim/cut.py" 425)]
noncomputable def o175 (P : Params) : Obj := ⟨(.type "function"), none, (fn (me 18 4) "terminator" "Body.terminator" 3 [] .none .none .none (sv "lendcore.mir" 370) none (r 174) .none 0), List.toArray []⟩
noncomputable def o176 (P : Params) : Obj := tu []
noncomputable def o177 (P : Params) : Obj := fi []
noncomputable def o178 (P : Params) : Obj := tu [(sv "self" 430), (sv "point" 431)]
noncomputable def o179 (P : Params) : Obj := tu []
noncomputable def o180 (P : Params) : Obj := ⟨.none, none, (fn (me 18 5) "spot" "Body.spot" 0 [] .none .none .none .none none .none .none 0), List.toArray []⟩
noncomputable def o181 (P : Params) : Obj := co [(sv "spot" 427), (sv "Body.spot" 428), (sv "/claim/cut.py" 429), (.int 98 0), (.int 2 0), (.int 0 0), (.int 0 0), (.int 3 0), (r 176), (.bool true), (.int 181 0), (r 177), .none, (r 178), (r 179), (r 180), (.int 432 0), (.int 98 0), (sv "/claim/cut.py" 433)]
noncomputable def o182 (P : Params) : Obj := ⟨(.type "function"), none, (fn (me 18 5) "spot" "Body.spot" 3 [] .none .none .none (sv "lendcore.mir" 370) none (r 181) .none 0), List.toArray []⟩
noncomputable def o183 (P : Params) : Obj := tu [(.bool true), .none]
noncomputable def o184 (P : Params) : Obj := tu []
noncomputable def o185 (P : Params) : Obj := fi []
noncomputable def o186 (P : Params) : Obj := tu [(sv "self" 438), (sv "told" 439), (sv "is_mut" 440), (sv "name" 441)]
noncomputable def o187 (P : Params) : Obj := tu []
noncomputable def o188 (P : Params) : Obj := ⟨.none, none, (fn (me 18 6) "new_local" "Body.new_local" 0 [] .none .none .none .none none .none .none 0), List.toArray []⟩
noncomputable def o189 (P : Params) : Obj := co [(sv "new_local" 435), (sv "Body.new_local" 436), (sv "/claim/cut.py" 437), (.int 101 0), (.int 4 0), (.int 0 0), (.int 0 0), (.int 3 0), (r 184), (.bool true), (.int 181 0), (r 185), .none, (r 186), (r 187), (r 188), (.int 442 0), (.int 101 0), (sv "/claim/cut.py" 443)]
noncomputable def o190 (P : Params) : Obj := ⟨(.type "function"), none, (fn (me 18 6) "new_local" "Body.new_local" 3 [] (r 183) .none .none (sv "lendcore.mir" 370) none (r 189) .none 0), List.toArray []⟩
noncomputable def o191 (P : Params) : Obj := tu [(sv "arg_count" 445), (sv "blocks" 446), (sv "locals" 447), (sv "name" 448), (sv "spots" 449)]
noncomputable def o192 (P : Params) : Obj := ⟨(.type "dict"), none, (.dict (List.toArray [E P "__module__" 379 (sv "lendcore.mir" 370), E P "__firstlineno__" 383 (.int 77 382), E P "__init__" 395 (r 147), E P "type_of" 403 (r 154), E P "args" 410 (r 161), E P "statements" 418 (r 168), E P "terminator" 426 (r 175), E P "spot" 434 (r 182), E P "new_local" 444 (r 190), E P "__static_attributes__" 450 (r 191), E P "__dict__" 452 (r 194), E P "__weakref__" 454 (r 195), E P "__doc__" 455 .none]) 4), List.toArray []⟩
noncomputable def o193 (P : Params) : Obj := ⟨(.type "type"), none, (.cls { name := .ofString "Body", bases := [(.type "object")], mro := [(r 193), (.type "object")], ns := 192, qualname := .ofString "Body", hasDict := true, slotNames := [], subclasses := [], abstract := false, collection := none, hasDel := false }), List.toArray [none, none, some (sv "Body" 372), some (sv "Body" 380), some (.builtin "object.__new__"), some (.bool true)]⟩
noncomputable def o194 (P : Params) : Obj := ⟨(.type "getset_descriptor"), none, (.fields (List.toArray [(sv "__dict__" 451), (r 193), (.builtin "function.__dict__"), (.builtin "function.__dict__#set")])), List.toArray []⟩
noncomputable def o195 (P : Params) : Obj := ⟨(.type "getset_descriptor"), none, (.fields (List.toArray [(sv "__weakref__" 453), (r 193), (.builtin "ExceptionGroup.__weakref__"), .none])), List.toArray []⟩
noncomputable def o196 (P : Params) : Obj := ⟨(.type "super"), none, (.fields (List.toArray [(r 193), (r 193), (r 193)])), List.toArray []⟩
noncomputable def o197 (P : Params) : Obj := ⟨(.type "builtin_function_or_method"), none, (.fields (List.toArray [(.builtin "object.__init_subclass__"), (r 193)])), List.toArray []⟩
noncomputable def o198 (P : Params) : Obj := tu []
noncomputable def o199 (P : Params) : Obj := fi []
noncomputable def o200 (P : Params) : Obj := ⟨.none, none, (fn (st 19) "successors" "successors" 0 [] .none .none .none .none none .none .none 0), List.toArray []⟩
noncomputable def o201 (P : Params) : Obj := co [(sv "successors" 458), (sv "successors" 459), (sv "/claim/cut.py" 460), (.int 103 0), (.int 1 0), (.int 0 0), (.int 0 0), (.int 3 0), (r 198), (.bool true), (.int 181 0), (r 199), .none, .none, .none, (r 200), (.int 461 0), (.int 103 0), (sv "/claim/cut.py" 462)]
noncomputable def o202 (P : Params) : Obj := ⟨(.type "function"), none, (fn (st 19) "successors" "successors" 3 [] .none .none .none (sv "lendcore.mir" 370) none (r 201) .none 0), List.toArray []⟩
noncomputable def o203 (P : Params) : Obj := tu []
noncomputable def o204 (P : Params) : Obj := fi []
noncomputable def o205 (P : Params) : Obj := ⟨.none, none, (fn (st 20) "copied" "copied" 0 [] .none .none .none .none none .none .none 0), List.toArray []⟩
noncomputable def o206 (P : Params) : Obj := co [(sv "copied" 464), (sv "copied" 465), (sv "/claim/cut.py" 466), (.int 122 0), (.int 1 0), (.int 0 0), (.int 0 0), (.int 3 0), (r 203), (.bool true), (.int 181 0), (r 204), .none, .none, .none, (r 205), (.int 467 0), (.int 122 0), (sv "/claim/cut.py" 468)]
noncomputable def o207 (P : Params) : Obj := ⟨(.type "function"), none, (fn (st 20) "copied" "copied" 3 [] .none .none .none (sv "lendcore.mir" 370) none (r 206) .none 0), List.toArray []⟩
noncomputable def o208 (P : Params) : Obj := tu []
noncomputable def o209 (P : Params) : Obj := fi []
noncomputable def o210 (P : Params) : Obj := tu [(sv "rvalue" 473), (sv "word" 474)]
noncomputable def o211 (P : Params) : Obj := tu []
noncomputable def o212 (P : Params) : Obj := ⟨.none, none, (fn (st 21) "operands_of" "operands_of" 0 [] .none .none .none .none none .none .none 0), List.toArray []⟩
noncomputable def o213 (P : Params) : Obj := co [(sv "operands_of" 470), (sv "operands_of" 471), (sv "/claim/cut.py" 472), (.int 125 0), (.int 1 0), (.int 0 0), (.int 0 0), (.int 3 0), (r 208), (.bool true), (.int 181 0), (r 209), .none, (r 210), (r 211), (r 212), (.int 475 0), (.int 125 0), (sv "/claim/cut.py" 476)]
noncomputable def o214 (P : Params) : Obj := ⟨(.type "function"), none, (fn (st 21) "operands_of" "operands_of" 3 [] .none .none .none (sv "lendcore.mir" 370) none (r 213) .none 0), List.toArray []⟩
noncomputable def o215 (P : Params) : Obj := tu []
noncomputable def o216 (P : Params) : Obj := fi []
noncomputable def o217 (P : Params) : Obj := tu [(sv "rvalue" 481), (sv "operands" 482), (sv "word" 483)]
noncomputable def o218 (P : Params) : Obj := tu []
noncomputable def o219 (P : Params) : Obj := ⟨.none, none, (fn (st 22) "with_operands" "with_operands" 0 [] .none .none .none .none none .none .none 0), List.toArray []⟩
noncomputable def o220 (P : Params) : Obj := co [(sv "with_operands" 478), (sv "with_operands" 479), (sv "/claim/cut.py" 480), (.int 138 0), (.int 2 0), (.int 0 0), (.int 0 0), (.int 3 0), (r 215), (.bool true), (.int 181 0), (r 216), .none, (r 217), (r 218), (r 219), (.int 484 0), (.int 138 0), (sv "/claim/cut.py" 485)]
noncomputable def o221 (P : Params) : Obj := ⟨(.type "function"), none, (fn (st 22) "with_operands" "with_operands" 3 [] .none .none .none (sv "lendcore.mir" 370) none (r 220) .none 0), List.toArray []⟩
noncomputable def o222 (P : Params) : Obj := tu [(sv "==" 489), (sv "!=" 490), (sv "<" 491), (sv "<=" 492), (sv ">" 493), (sv ">=" 494)]
noncomputable def o223 (P : Params) : Obj := tu [(sv "int" 496), (sv "bool" 497)]
noncomputable def o224 (P : Params) : Obj := tu []
noncomputable def o225 (P : Params) : Obj := fi []
noncomputable def o226 (P : Params) : Obj := ⟨.none, none, (fn (st 26) "is_followed" "is_followed" 0 [] .none .none .none .none none .none .none 0), List.toArray []⟩
noncomputable def o227 (P : Params) : Obj := co [(sv "is_followed" 499), (sv "is_followed" 500), (sv "/claim/cut.py" 501), (.int 154 0), (.int 1 0), (.int 0 0), (.int 0 0), (.int 3 0), (r 224), (.bool true), (.int 181 0), (r 225), .none, .none, .none, (r 226), (.int 502 0), (.int 154 0), (sv "/claim/cut.py" 503)]
noncomputable def o228 (P : Params) : Obj := ⟨(.type "function"), none, (fn (st 26) "is_followed" "is_followed" 3 [] .none .none .none (sv "lendcore.constants" 487) none (r 227) .none 0), List.toArray []⟩
noncomputable def o229 (P : Params) : Obj := tu []
noncomputable def o230 (P : Params) : Obj := fi []
noncomputable def o231 (P : Params) : Obj := tu [(sv "body" 508), (sv "found" 509), (sv "statements" 510), (sv "terminator" 511), (sv "statement" 512)]
noncomputable def o232 (P : Params) : Obj := tu []
noncomputable def o233 (P : Params) : Obj := ⟨.none, none, (fn (st 27) "lent_locals" "lent_locals" 0 [] .none .none .none .none none .none .none 0), List.toArray []⟩
noncomputable def o234 (P : Params) : Obj := co [(sv "lent_locals" 505), (sv "lent_locals" 506), (sv "/claim/cut.py" 507), (.int 158 0), (.int 1 0), (.int 0 0), (.int 0 0), (.int 3 0), (r 229), (.bool true), (.int 181 0), (r 230), .none, (r 231), (r 232), (r 233), (.int 513 0), (.int 158 0), (sv "/claim/cut.py" 514)]
noncomputable def o235 (P : Params) : Obj := ⟨(.type "function"), none, (fn (st 27) "lent_locals" "lent_locals" 3 [] .none .none .none (sv "lendcore.constants" 487) none (r 234) .none 0), List.toArray []⟩
noncomputable def o236 (P : Params) : Obj := tu []
noncomputable def o237 (P : Params) : Obj := ⟨(.type "builtin_function_or_method"), none, (.fields (List.toArray [(.builtin "type.__prepare__"), (.type "type")])), List.toArray []⟩
noncomputable def o238 (P : Params) : Obj := ⟨(.type "dict"), none, (.dict (List.toArray [E P "__module__" 523 (sv "lendcore.constants" 487), E P "__qualname__" 525 (sv "Facts" 524), E P "__firstlineno__" 527 (.int 165 526), E P "__init__" 535 (r 249), E P "at_place" 545 (r 256), E P "at_operand" 553 (r 263), E P "forget" 561 (r 270), E P "__static_attributes__" 563 (r 271)]) 8), List.toArray []⟩
noncomputable def o239 (P : Params) : Obj := tu []
noncomputable def o240 (P : Params) : Obj := fi [(.int 167 0), (.int 4 0), (r 248), (.int 170 0), (.int 4 0), (r 255), (.int 178 0), (.int 4 0), (r 262), (.int 183 0), (.int 4 0), (r 269)]
noncomputable def o241 (P : Params) : Obj := co [(sv "Facts" 518), (sv "Facts" 519), (sv "/claim/cut.py" 520), (.int 165 0), (.int 0 0), (.int 0 0), (.int 0 0), (.int 0 0), (r 239), (.bool false), (.int 181 0), (r 240), .none, .none, .none, .none, (.int 521 0), (.int 165 0), (sv "/claim/cut.py" 522)]
noncomputable def o242 (P : Params) : Obj := ⟨(.type "frame"), none, .plain, List.toArray [some (r 241), some (r 3), some (r 238), none, some (sv "lendcore.constants" 487), none, some (r 0)]⟩
noncomputable def o243 (P : Params) : Obj := tu []
noncomputable def o244 (P : Params) : Obj := fi []
noncomputable def o245 (P : Params) : Obj := tu [(sv "self" 531), (sv "known" 532)]
noncomputable def o246 (P : Params) : Obj := tu []
noncomputable def o247 (P : Params) : Obj := ⟨.none, none, (fn (me 28 0) "__init__" "Facts.__init__" 0 [] .none .none .none .none none .none .none 0), List.toArray []⟩
noncomputable def o248 (P : Params) : Obj := co [(sv "__init__" 528), (sv "Facts.__init__" 529), (sv "/claim/cut.py" 530), (.int 167 0), (.int 2 0), (.int 0 0), (.int 0 0), (.int 3 0), (r 243), (.bool true), (.int 181 0), (r 244), .none, (r 245), (r 246), (r 247), (.int 533 0), (.int 167 0), (sv "/claim/cut.py" 534)]
noncomputable def o249 (P : Params) : Obj := ⟨(.type "function"), none, (fn (me 28 0) "__init__" "Facts.__init__" 3 [] .none .none .none (sv "lendcore.constants" 487) none (r 248) .none 0), List.toArray []⟩
noncomputable def o250 (P : Params) : Obj := tu []
noncomputable def o251 (P : Params) : Obj := fi []
noncomputable def o252 (P : Params) : Obj := tu [(sv "self" 539), (sv "place" 540), (sv "value" 541), (sv "projection" 542)]
noncomputable def o253 (P : Params) : Obj := tu []
noncomputable def o254 (P : Params) : Obj := ⟨.none, none, (fn (me 28 1) "at_place" "Facts.at_place" 0 [] .none .none .none .none none .none .none 0), List.toArray []⟩
noncomputable def o255 (P : Params) : Obj := co [(sv "at_place" 536), (sv "Facts.at_place" 537), (sv "/claim/cut.py" 538), (.int 170 0), (.int 2 0), (.int 0 0), (.int 0 0), (.int 3 0), (r 250), (.bool true), (.int 181 0), (r 251), .none, (r 252), (r 253), (r 254), (.int 543 0), (.int 170 0), (sv "/claim/cut.py" 544)]
noncomputable def o256 (P : Params) : Obj := ⟨(.type "function"), none, (fn (me 28 1) "at_place" "Facts.at_place" 3 [] .none .none .none (sv "lendcore.constants" 487) none (r 255) .none 0), List.toArray []⟩
noncomputable def o257 (P : Params) : Obj := tu []
noncomputable def o258 (P : Params) : Obj := fi []
noncomputable def o259 (P : Params) : Obj := tu [(sv "self" 549), (sv "operand" 550)]
noncomputable def o260 (P : Params) : Obj := tu []
noncomputable def o261 (P : Params) : Obj := ⟨.none, none, (fn (me 28 2) "at_operand" "Facts.at_operand" 0 [] .none .none .none .none none .none .none 0), List.toArray []⟩
noncomputable def o262 (P : Params) : Obj := co [(sv "at_operand" 546), (sv "Facts.at_operand" 547), (sv "/claim/cut.py" 548), (.int 178 0), (.int 2 0), (.int 0 0), (.int 0 0), (.int 3 0), (r 257), (.bool true), (.int 181 0), (r 258), .none, (r 259), (r 260), (r 261), (.int 551 0), (.int 178 0), (sv "/claim/cut.py" 552)]
noncomputable def o263 (P : Params) : Obj := ⟨(.type "function"), none, (fn (me 28 2) "at_operand" "Facts.at_operand" 3 [] .none .none .none (sv "lendcore.constants" 487) none (r 262) .none 0), List.toArray []⟩
noncomputable def o264 (P : Params) : Obj := tu []
noncomputable def o265 (P : Params) : Obj := fi []
noncomputable def o266 (P : Params) : Obj := tu [(sv "self" 557), (sv "place" 558)]
noncomputable def o267 (P : Params) : Obj := tu []
noncomputable def o268 (P : Params) : Obj := ⟨.none, none, (fn (me 28 3) "forget" "Facts.forget" 0 [] .none .none .none .none none .none .none 0), List.toArray []⟩
noncomputable def o269 (P : Params) : Obj := co [(sv "forget" 554), (sv "Facts.forget" 555), (sv "/claim/cut.py" 556), (.int 183 0), (.int 2 0), (.int 0 0), (.int 0 0), (.int 3 0), (r 264), (.bool true), (.int 181 0), (r 265), .none, (r 266), (r 267), (r 268), (.int 559 0), (.int 183 0), (sv "/claim/cut.py" 560)]
noncomputable def o270 (P : Params) : Obj := ⟨(.type "function"), none, (fn (me 28 3) "forget" "Facts.forget" 3 [] .none .none .none (sv "lendcore.constants" 487) none (r 269) .none 0), List.toArray []⟩
noncomputable def o271 (P : Params) : Obj := tu [(sv "known" 562)]
noncomputable def o272 (P : Params) : Obj := ⟨(.type "dict"), none, (.dict (List.toArray [E P "__module__" 523 (sv "lendcore.constants" 487), E P "__firstlineno__" 527 (.int 165 526), E P "__init__" 535 (r 249), E P "at_place" 545 (r 256), E P "at_operand" 553 (r 263), E P "forget" 561 (r 270), E P "__static_attributes__" 563 (r 271), E P "__dict__" 565 (r 274), E P "__weakref__" 567 (r 275), E P "__doc__" 568 .none]) 4), List.toArray []⟩
noncomputable def o273 (P : Params) : Obj := ⟨(.type "type"), none, (.cls { name := .ofString "Facts", bases := [(.type "object")], mro := [(r 273), (.type "object")], ns := 272, qualname := .ofString "Facts", hasDict := true, slotNames := [], subclasses := [], abstract := false, collection := none, hasDel := false }), List.toArray [none, none, some (sv "Facts" 516), some (sv "Facts" 524), some (.builtin "object.__new__"), some (.bool true)]⟩
noncomputable def o274 (P : Params) : Obj := ⟨(.type "getset_descriptor"), none, (.fields (List.toArray [(sv "__dict__" 564), (r 273), (.builtin "function.__dict__"), (.builtin "function.__dict__#set")])), List.toArray []⟩
noncomputable def o275 (P : Params) : Obj := ⟨(.type "getset_descriptor"), none, (.fields (List.toArray [(sv "__weakref__" 566), (r 273), (.builtin "ExceptionGroup.__weakref__"), .none])), List.toArray []⟩
noncomputable def o276 (P : Params) : Obj := ⟨(.type "super"), none, (.fields (List.toArray [(r 273), (r 273), (r 273)])), List.toArray []⟩
noncomputable def o277 (P : Params) : Obj := ⟨(.type "builtin_function_or_method"), none, (.fields (List.toArray [(.builtin "object.__init_subclass__"), (r 273)])), List.toArray []⟩
noncomputable def o278 (P : Params) : Obj := tu []
noncomputable def o279 (P : Params) : Obj := fi []
noncomputable def o280 (P : Params) : Obj := tu [(sv "op" 574), (sv "t" 575), (sv "a" 576), (sv "b" 577)]
noncomputable def o281 (P : Params) : Obj := tu []
noncomputable def o282 (P : Params) : Obj := ⟨.none, none, (fn (st 29) "reckoned_binary" "reckoned_binary" 0 [] .none .none .none .none none .none .none 0), List.toArray []⟩
noncomputable def o283 (P : Params) : Obj := co [(sv "reckoned_binary" 571), (sv "reckoned_binary" 572), (sv "/claim/cut.py" 573), (.int 185 0), (.int 4 0), (.int 0 0), (.int 0 0), (.int 3 0), (r 278), (.bool true), (.int 181 0), (r 279), .none, (r 280), (r 281), (r 282), (.int 578 0), (.int 185 0), (sv "/claim/cut.py" 579)]
noncomputable def o284 (P : Params) : Obj := ⟨(.type "function"), none, (fn (st 29) "reckoned_binary" "reckoned_binary" 3 [] .none .none .none (sv "lendcore.constants" 487) none (r 283) .none 0), List.toArray []⟩
noncomputable def o285 (P : Params) : Obj := tu []
noncomputable def o286 (P : Params) : Obj := ⟨(.type "builtin_function_or_method"), none, (.fields (List.toArray [(.builtin "type.__prepare__"), (.type "type")])), List.toArray []⟩
noncomputable def o287 (P : Params) : Obj := ⟨(.type "dict"), none, (.dict (List.toArray [E P "__module__" 588 (sv "lendcore.constants" 487), E P "__qualname__" 590 (sv "Constants" 589), E P "__firstlineno__" 592 (.int 191 591), E P "__init__" 602 (r 298), E P "type_of" 614 (r 305), E P "value_of" 620 (r 310), E P "of_two" 637 (r 317), E P "of_one" 648 (r 324), E P "of_cast" 658 (r 331), E P "step" 670 (r 338), E P "behind" 682 (r 345), E P "gone_on" 688 (r 350), E P "known_target" 700 (r 357), E P "meet" 706 (r 362), E P "follow" 717 (r 369), E P "put" 728 (r 376), E P "put_rvalue" 734 (r 381), E P "put_statement" 743 (r 388), E P "put_terminator" 749 (r 393), E P "__static_attributes__" 753 (r 394)]) 20), List.toArray []⟩
noncomputable def o288 (P : Params) : Obj := tu []
noncomputable def o289 (P : Params) : Obj := fi [(.int 193 0), (.int 4 0), (r 297), (.int 202 0), (.int 4 0), (r 304), (.int 213 0), (.int 4 0), (r 309), (.int 228 0), (.int 4 0), (r 316), (.int 238 0), (.int 4 0), (r 323), (.int 246 0), (.int 4 0), (r 330), (.int 252 0), (.int 4 0), (r 337), (.int 262 0), (.int 4 0), (r 344), (.int 269 0), (.int 4 0), (r 349), (.int 280 0), (.int 4 0), (r 356), (.int 293 0), (.int 4 0), (r 361), (.int 302 0), (.int 4 0), (r 368), (.int 310 0), (.int 4 0), (r 375), (.int 316 0), (.int 4 0), (r 380), (.int 323 0), (.int 4 0), (r 387), (.int 330 0), (.int 4 0), (r 392)]
noncomputable def o290 (P : Params) : Obj := co [(sv "Constants" 583), (sv "Constants" 584), (sv "/claim/cut.py" 585), (.int 191 0), (.int 0 0), (.int 0 0), (.int 0 0), (.int 0 0), (r 288), (.bool false), (.int 181 0), (r 289), .none, .none, .none, .none, (.int 586 0), (.int 191 0), (sv "/claim/cut.py" 587)]
noncomputable def o291 (P : Params) : Obj := ⟨(.type "frame"), none, .plain, List.toArray [some (r 290), some (r 3), some (r 287), none, some (sv "lendcore.constants" 487), none, some (r 0)]⟩
noncomputable def o292 (P : Params) : Obj := tu []
noncomputable def o293 (P : Params) : Obj := fi []
noncomputable def o294 (P : Params) : Obj := tu [(sv "self" 596), (sv "body" 597), (sv "lent" 598), (sv "local" 599)]
noncomputable def o295 (P : Params) : Obj := tu []
noncomputable def o296 (P : Params) : Obj := ⟨.none, none, (fn (me 30 0) "__init__" "Constants.__init__" 0 [] .none .none .none .none none .none .none 0), List.toArray []⟩
noncomputable def o297 (P : Params) : Obj := co [(sv "__init__" 593), (sv "Constants.__init__" 594), (sv "/claim/cut.py" 595), (.int 193 0), (.int 2 0), (.int 0 0), (.int 0 0), (.int 3 0), (r 292), (.bool true), (.int 181 0), (r 293), .none, (r 294), (r 295), (r 296), (.int 600 0), (.int 193 0), (sv "/claim/cut.py" 601)]
noncomputable def o298 (P : Params) : Obj := ⟨(.type "function"), none, (fn (me 30 0) "__init__" "Constants.__init__" 3 [] .none .none .none (sv "lendcore.constants" 487) none (r 297) .none 0), List.toArray []⟩
noncomputable def o299 (P : Params) : Obj := tu []
noncomputable def o300 (P : Params) : Obj := fi []
noncomputable def o301 (P : Params) : Obj := tu [(sv "self" 606), (sv "operand" 607), (sv "local" 608), (sv "projections" 609), (sv "t" 610), (sv "projection" 611)]
noncomputable def o302 (P : Params) : Obj := tu []
noncomputable def o303 (P : Params) : Obj := ⟨.none, none, (fn (me 30 1) "type_of" "Constants.type_of" 0 [] .none .none .none .none none .none .none 0), List.toArray []⟩
noncomputable def o304 (P : Params) : Obj := co [(sv "type_of" 603), (sv "Constants.type_of" 604), (sv "/claim/cut.py" 605), (.int 202 0), (.int 2 0), (.int 0 0), (.int 0 0), (.int 3 0), (r 299), (.bool true), (.int 181 0), (r 300), .none, (r 301), (r 302), (r 303), (.int 612 0), (.int 202 0), (sv "/claim/cut.py" 613)]
noncomputable def o305 (P : Params) : Obj := ⟨(.type "function"), none, (fn (me 30 1) "type_of" "Constants.type_of" 3 [] .none .none .none (sv "lendcore.constants" 487) none (r 304) .none 0), List.toArray []⟩
noncomputable def o306 (P : Params) : Obj := tu []
noncomputable def o307 (P : Params) : Obj := fi []
noncomputable def o308 (P : Params) : Obj := ⟨.none, none, (fn (me 30 2) "value_of" "Constants.value_of" 0 [] .none .none .none .none none .none .none 0), List.toArray []⟩
noncomputable def o309 (P : Params) : Obj := co [(sv "value_of" 615), (sv "Constants.value_of" 616), (sv "/claim/cut.py" 617), (.int 213 0), (.int 3 0), (.int 0 0), (.int 0 0), (.int 3 0), (r 306), (.bool true), (.int 181 0), (r 307), .none, .none, .none, (r 308), (.int 618 0), (.int 213 0), (sv "/claim/cut.py" 619)]
noncomputable def o310 (P : Params) : Obj := ⟨(.type "function"), none, (fn (me 30 2) "value_of" "Constants.value_of" 3 [] .none .none .none (sv "lendcore.constants" 487) none (r 309) .none 0), List.toArray []⟩
noncomputable def o311 (P : Params) : Obj := tu []
noncomputable def o312 (P : Params) : Obj := fi []
noncomputable def o313 (P : Params) : Obj := tu [(sv "self" 624), (sv "rvalue" 625), (sv "facts" 626), (sv "kind" 627), (sv "op" 628), (sv "left" 629), (sv "right" 630), (sv "a" 631), (sv "b" 632), (sv "t" 633), (sv "told" 634)]
noncomputable def o314 (P : Params) : Obj := tu []
noncomputable def o315 (P : Params) : Obj := ⟨.none, none, (fn (me 30 3) "of_two" "Constants.of_two" 0 [] .none .none .none .none none .none .none 0), List.toArray []⟩
noncomputable def o316 (P : Params) : Obj := co [(sv "of_two" 621), (sv "Constants.of_two" 622), (sv "/claim/cut.py" 623), (.int 228 0), (.int 3 0), (.int 0 0), (.int 0 0), (.int 3 0), (r 311), (.bool true), (.int 181 0), (r 312), .none, (r 313), (r 314), (r 315), (.int 635 0), (.int 228 0), (sv "/claim/cut.py" 636)]
noncomputable def o317 (P : Params) : Obj := ⟨(.type "function"), none, (fn (me 30 3) "of_two" "Constants.of_two" 3 [] .none .none .none (sv "lendcore.constants" 487) none (r 316) .none 0), List.toArray []⟩
noncomputable def o318 (P : Params) : Obj := tu []
noncomputable def o319 (P : Params) : Obj := fi []
noncomputable def o320 (P : Params) : Obj := tu [(sv "self" 641), (sv "rvalue" 642), (sv "facts" 643), (sv "a" 644), (sv "t" 645)]
noncomputable def o321 (P : Params) : Obj := tu []
noncomputable def o322 (P : Params) : Obj := ⟨.none, none, (fn (me 30 4) "of_one" "Constants.of_one" 0 [] .none .none .none .none none .none .none 0), List.toArray []⟩
noncomputable def o323 (P : Params) : Obj := co [(sv "of_one" 638), (sv "Constants.of_one" 639), (sv "/claim/cut.py" 640), (.int 238 0), (.int 3 0), (.int 0 0), (.int 0 0), (.int 3 0), (r 318), (.bool true), (.int 181 0), (r 319), .none, (r 320), (r 321), (r 322), (.int 646 0), (.int 238 0), (sv "/claim/cut.py" 647)]
noncomputable def o324 (P : Params) : Obj := ⟨(.type "function"), none, (fn (me 30 4) "of_one" "Constants.of_one" 3 [] .none .none .none (sv "lendcore.constants" 487) none (r 323) .none 0), List.toArray []⟩
noncomputable def o325 (P : Params) : Obj := tu []
noncomputable def o326 (P : Params) : Obj := fi []
noncomputable def o327 (P : Params) : Obj := tu [(sv "self" 652), (sv "rvalue" 653), (sv "facts" 654), (sv "a" 655)]
noncomputable def o328 (P : Params) : Obj := tu []
noncomputable def o329 (P : Params) : Obj := ⟨.none, none, (fn (me 30 5) "of_cast" "Constants.of_cast" 0 [] .none .none .none .none none .none .none 0), List.toArray []⟩
noncomputable def o330 (P : Params) : Obj := co [(sv "of_cast" 649), (sv "Constants.of_cast" 650), (sv "/claim/cut.py" 651), (.int 246 0), (.int 3 0), (.int 0 0), (.int 0 0), (.int 3 0), (r 325), (.bool true), (.int 181 0), (r 326), .none, (r 327), (r 328), (r 329), (.int 656 0), (.int 246 0), (sv "/claim/cut.py" 657)]
noncomputable def o331 (P : Params) : Obj := ⟨(.type "function"), none, (fn (me 30 5) "of_cast" "Constants.of_cast" 3 [] .none .none .none (sv "lendcore.constants" 487) none (r 330) .none 0), List.toArray []⟩
noncomputable def o332 (P : Params) : Obj := tu []
noncomputable def o333 (P : Params) : Obj := fi []
noncomputable def o334 (P : Params) : Obj := tu [(sv "self" 662), (sv "statement" 663), (sv "facts" 664), (sv "place" 665), (sv "rvalue" 666), (sv "value" 667)]
noncomputable def o335 (P : Params) : Obj := tu []
noncomputable def o336 (P : Params) : Obj := ⟨.none, none, (fn (me 30 6) "step" "Constants.step" 0 [] .none .none .none .none none .none .none 0), List.toArray []⟩
noncomputable def o337 (P : Params) : Obj := co [(sv "step" 659), (sv "Constants.step" 660), (sv "/claim/cut.py" 661), (.int 252 0), (.int 3 0), (.int 0 0), (.int 0 0), (.int 3 0), (r 332), (.bool true), (.int 181 0), (r 333), .none, (r 334), (r 335), (r 336), (.int 668 0), (.int 252 0), (sv "/claim/cut.py" 669)]
noncomputable def o338 (P : Params) : Obj := ⟨(.type "function"), none, (fn (me 30 6) "step" "Constants.step" 3 [] .none .none .none (sv "lendcore.constants" 487) none (r 337) .none 0), List.toArray []⟩
noncomputable def o339 (P : Params) : Obj := tu []
noncomputable def o340 (P : Params) : Obj := fi []
noncomputable def o341 (P : Params) : Obj := tu [(sv "self" 674), (sv "number" 675), (sv "facts" 676), (sv "statements" 677), (sv "terminator" 678), (sv "statement" 679)]
noncomputable def o342 (P : Params) : Obj := tu []
noncomputable def o343 (P : Params) : Obj := ⟨.none, none, (fn (me 30 7) "behind" "Constants.behind" 0 [] .none .none .none .none none .none .none 0), List.toArray []⟩
noncomputable def o344 (P : Params) : Obj := co [(sv "behind" 671), (sv "Constants.behind" 672), (sv "/claim/cut.py" 673), (.int 262 0), (.int 2 0), (.int 0 0), (.int 0 0), (.int 3 0), (r 339), (.bool true), (.int 181 0), (r 340), .none, (r 341), (r 342), (r 343), (.int 680 0), (.int 262 0), (sv "/claim/cut.py" 681)]
noncomputable def o345 (P : Params) : Obj := ⟨(.type "function"), none, (fn (me 30 7) "behind" "Constants.behind" 3 [] .none .none .none (sv "lendcore.constants" 487) none (r 344) .none 0), List.toArray []⟩
noncomputable def o346 (P : Params) : Obj := tu []
noncomputable def o347 (P : Params) : Obj := fi []
noncomputable def o348 (P : Params) : Obj := ⟨.none, none, (fn (me 30 8) "gone_on" "Constants.gone_on" 0 [] .none .none .none .none none .none .none 0), List.toArray []⟩
noncomputable def o349 (P : Params) : Obj := co [(sv "gone_on" 683), (sv "Constants.gone_on" 684), (sv "/claim/cut.py" 685), (.int 269 0), (.int 3 0), (.int 0 0), (.int 0 0), (.int 3 0), (r 346), (.bool true), (.int 181 0), (r 347), .none, .none, .none, (r 348), (.int 686 0), (.int 269 0), (sv "/claim/cut.py" 687)]
noncomputable def o350 (P : Params) : Obj := ⟨(.type "function"), none, (fn (me 30 8) "gone_on" "Constants.gone_on" 3 [] .none .none .none (sv "lendcore.constants" 487) none (r 349) .none 0), List.toArray []⟩
noncomputable def o351 (P : Params) : Obj := tu []
noncomputable def o352 (P : Params) : Obj := fi []
noncomputable def o353 (P : Params) : Obj := tu [(sv "self" 692), (sv "terminator" 693), (sv "facts" 694), (sv "value" 695), (sv "told" 696), (sv "block" 697)]
noncomputable def o354 (P : Params) : Obj := tu []
noncomputable def o355 (P : Params) : Obj := ⟨.none, none, (fn (me 30 9) "known_target" "Constants.known_target" 0 [] .none .none .none .none none .none .none 0), List.toArray []⟩
noncomputable def o356 (P : Params) : Obj := co [(sv "known_target" 689), (sv "Constants.known_target" 690), (sv "/claim/cut.py" 691), (.int 280 0), (.int 3 0), (.int 0 0), (.int 0 0), (.int 3 0), (r 351), (.bool true), (.int 181 0), (r 352), .none, (r 353), (r 354), (r 355), (.int 698 0), (.int 280 0), (sv "/claim/cut.py" 699)]
noncomputable def o357 (P : Params) : Obj := ⟨(.type "function"), none, (fn (me 30 9) "known_target" "Constants.known_target" 3 [] .none .none .none (sv "lendcore.constants" 487) none (r 356) .none 0), List.toArray []⟩
noncomputable def o358 (P : Params) : Obj := tu []
noncomputable def o359 (P : Params) : Obj := fi []
noncomputable def o360 (P : Params) : Obj := ⟨.none, none, (fn (me 30 10) "meet" "Constants.meet" 0 [] .none .none .none .none none .none .none 0), List.toArray []⟩
noncomputable def o361 (P : Params) : Obj := co [(sv "meet" 701), (sv "Constants.meet" 702), (sv "/claim/cut.py" 703), (.int 293 0), (.int 3 0), (.int 0 0), (.int 0 0), (.int 3 0), (r 358), (.bool true), (.int 181 0), (r 359), .none, .none, .none, (r 360), (.int 704 0), (.int 293 0), (sv "/claim/cut.py" 705)]
noncomputable def o362 (P : Params) : Obj := ⟨(.type "function"), none, (fn (me 30 10) "meet" "Constants.meet" 3 [] .none .none .none (sv "lendcore.constants" 487) none (r 361) .none 0), List.toArray []⟩
noncomputable def o363 (P : Params) : Obj := tu []
noncomputable def o364 (P : Params) : Obj := fi []
noncomputable def o365 (P : Params) : Obj := tu [(sv "self" 710), (sv "left" 711), (sv "number" 712), (sv "block" 713), (sv "known" 714)]
noncomputable def o366 (P : Params) : Obj := tu []
noncomputable def o367 (P : Params) : Obj := ⟨.none, none, (fn (me 30 11) "follow" "Constants.follow" 0 [] .none .none .none .none none .none .none 0), List.toArray []⟩
noncomputable def o368 (P : Params) : Obj := co [(sv "follow" 707), (sv "Constants.follow" 708), (sv "/claim/cut.py" 709), (.int 302 0), (.int 1 0), (.int 0 0), (.int 0 0), (.int 3 0), (r 363), (.bool true), (.int 181 0), (r 364), .none, (r 365), (r 366), (r 367), (.int 715 0), (.int 302 0), (sv "/claim/cut.py" 716)]
noncomputable def o369 (P : Params) : Obj := ⟨(.type "function"), none, (fn (me 30 11) "follow" "Constants.follow" 3 [] .none .none .none (sv "lendcore.constants" 487) none (r 368) .none 0), List.toArray []⟩
noncomputable def o370 (P : Params) : Obj := tu []
noncomputable def o371 (P : Params) : Obj := fi []
noncomputable def o372 (P : Params) : Obj := tu [(sv "self" 721), (sv "operand" 722), (sv "facts" 723), (sv "value" 724), (sv "t" 725)]
noncomputable def o373 (P : Params) : Obj := tu []
noncomputable def o374 (P : Params) : Obj := ⟨.none, none, (fn (me 30 12) "put" "Constants.put" 0 [] .none .none .none .none none .none .none 0), List.toArray []⟩
noncomputable def o375 (P : Params) : Obj := co [(sv "put" 718), (sv "Constants.put" 719), (sv "/claim/cut.py" 720), (.int 310 0), (.int 3 0), (.int 0 0), (.int 0 0), (.int 3 0), (r 370), (.bool true), (.int 181 0), (r 371), .none, (r 372), (r 373), (r 374), (.int 726 0), (.int 310 0), (sv "/claim/cut.py" 727)]
noncomputable def o376 (P : Params) : Obj := ⟨(.type "function"), none, (fn (me 30 12) "put" "Constants.put" 3 [] .none .none .none (sv "lendcore.constants" 487) none (r 375) .none 0), List.toArray []⟩
noncomputable def o377 (P : Params) : Obj := tu []
noncomputable def o378 (P : Params) : Obj := fi []
noncomputable def o379 (P : Params) : Obj := ⟨.none, none, (fn (me 30 13) "put_rvalue" "Constants.put_rvalue" 0 [] .none .none .none .none none .none .none 0), List.toArray []⟩
noncomputable def o380 (P : Params) : Obj := co [(sv "put_rvalue" 729), (sv "Constants.put_rvalue" 730), (sv "/claim/cut.py" 731), (.int 316 0), (.int 4 0), (.int 0 0), (.int 0 0), (.int 3 0), (r 377), (.bool true), (.int 181 0), (r 378), .none, .none, .none, (r 379), (.int 732 0), (.int 316 0), (sv "/claim/cut.py" 733)]
noncomputable def o381 (P : Params) : Obj := ⟨(.type "function"), none, (fn (me 30 13) "put_rvalue" "Constants.put_rvalue" 3 [] .none .none .none (sv "lendcore.constants" 487) none (r 380) .none 0), List.toArray []⟩
noncomputable def o382 (P : Params) : Obj := tu []
noncomputable def o383 (P : Params) : Obj := fi []
noncomputable def o384 (P : Params) : Obj := tu [(sv "self" 738), (sv "statement" 739), (sv "facts" 740)]
noncomputable def o385 (P : Params) : Obj := tu []
noncomputable def o386 (P : Params) : Obj := ⟨.none, none, (fn (me 30 14) "put_statement" "Constants.put_statement" 0 [] .none .none .none .none none .none .none 0), List.toArray []⟩
noncomputable def o387 (P : Params) : Obj := co [(sv "put_statement" 735), (sv "Constants.put_statement" 736), (sv "/claim/cut.py" 737), (.int 323 0), (.int 3 0), (.int 0 0), (.int 0 0), (.int 3 0), (r 382), (.bool true), (.int 181 0), (r 383), .none, (r 384), (r 385), (r 386), (.int 741 0), (.int 323 0), (sv "/claim/cut.py" 742)]
noncomputable def o388 (P : Params) : Obj := ⟨(.type "function"), none, (fn (me 30 14) "put_statement" "Constants.put_statement" 3 [] .none .none .none (sv "lendcore.constants" 487) none (r 387) .none 0), List.toArray []⟩
noncomputable def o389 (P : Params) : Obj := tu []
noncomputable def o390 (P : Params) : Obj := fi []
noncomputable def o391 (P : Params) : Obj := ⟨.none, none, (fn (me 30 15) "put_terminator" "Constants.put_terminator" 0 [] .none .none .none .none none .none .none 0), List.toArray []⟩
noncomputable def o392 (P : Params) : Obj := co [(sv "put_terminator" 744), (sv "Constants.put_terminator" 745), (sv "/claim/cut.py" 746), (.int 330 0), (.int 3 0), (.int 0 0), (.int 0 0), (.int 3 0), (r 389), (.bool true), (.int 181 0), (r 390), .none, .none, .none, (r 391), (.int 747 0), (.int 330 0), (sv "/claim/cut.py" 748)]
noncomputable def o393 (P : Params) : Obj := ⟨(.type "function"), none, (fn (me 30 15) "put_terminator" "Constants.put_terminator" 3 [] .none .none .none (sv "lendcore.constants" 487) none (r 392) .none 0), List.toArray []⟩
noncomputable def o394 (P : Params) : Obj := tu [(sv "begins" 750), (sv "body" 751), (sv "followed" 752)]
noncomputable def o395 (P : Params) : Obj := ⟨(.type "dict"), none, (.dict (List.toArray [E P "__module__" 588 (sv "lendcore.constants" 487), E P "__firstlineno__" 592 (.int 191 591), E P "__init__" 602 (r 298), E P "type_of" 614 (r 305), E P "value_of" 620 (r 310), E P "of_two" 637 (r 317), E P "of_one" 648 (r 324), E P "of_cast" 658 (r 331), E P "step" 670 (r 338), E P "behind" 682 (r 345), E P "gone_on" 688 (r 350), E P "known_target" 700 (r 357), E P "meet" 706 (r 362), E P "follow" 717 (r 369), E P "put" 728 (r 376), E P "put_rvalue" 734 (r 381), E P "put_statement" 743 (r 388), E P "put_terminator" 749 (r 393), E P "__static_attributes__" 753 (r 394), E P "__dict__" 755 (r 397), E P "__weakref__" 757 (r 398), E P "__doc__" 758 .none]) 4), List.toArray []⟩
noncomputable def o396 (P : Params) : Obj := ⟨(.type "type"), none, (.cls { name := .ofString "Constants", bases := [(.type "object")], mro := [(r 396), (.type "object")], ns := 395, qualname := .ofString "Constants", hasDict := true, slotNames := [], subclasses := [], abstract := false, collection := none, hasDel := false }), List.toArray [none, none, some (sv "Constants" 581), some (sv "Constants" 589), some (.builtin "object.__new__"), some (.bool true)]⟩
noncomputable def o397 (P : Params) : Obj := ⟨(.type "getset_descriptor"), none, (.fields (List.toArray [(sv "__dict__" 754), (r 396), (.builtin "function.__dict__"), (.builtin "function.__dict__#set")])), List.toArray []⟩
noncomputable def o398 (P : Params) : Obj := ⟨(.type "getset_descriptor"), none, (.fields (List.toArray [(sv "__weakref__" 756), (r 396), (.builtin "ExceptionGroup.__weakref__"), .none])), List.toArray []⟩
noncomputable def o399 (P : Params) : Obj := ⟨(.type "super"), none, (.fields (List.toArray [(r 396), (r 396), (r 396)])), List.toArray []⟩
noncomputable def o400 (P : Params) : Obj := ⟨(.type "builtin_function_or_method"), none, (.fields (List.toArray [(.builtin "object.__init_subclass__"), (r 396)])), List.toArray []⟩
noncomputable def o401 (P : Params) : Obj := tu []
noncomputable def o402 (P : Params) : Obj := fi []
noncomputable def o403 (P : Params) : Obj := tu [(sv "body" 764), (sv "constants" 765), (sv "found" 766), (sv "number" 767), (sv "facts" 768), (sv "statements" 769), (sv "terminator" 770), (sv "made" 771), (sv "statement" 772)]
noncomputable def o404 (P : Params) : Obj := tu []
noncomputable def o405 (P : Params) : Obj := ⟨.none, none, (fn (st 31) "with_constants" "with_constants" 0 [] .none .none .none .none none .none .none 0), List.toArray []⟩
noncomputable def o406 (P : Params) : Obj := co [(sv "with_constants" 761), (sv "with_constants" 762), (sv "/claim/cut.py" 763), (.int 340 0), (.int 1 0), (.int 0 0), (.int 0 0), (.int 3 0), (r 401), (.bool true), (.int 181 0), (r 402), .none, (r 403), (r 404), (r 405), (.int 773 0), (.int 340 0), (sv "/claim/cut.py" 774)]
noncomputable def o407 (P : Params) : Obj := ⟨(.type "function"), none, (fn (st 31) "with_constants" "with_constants" 3 [] .none .none .none (sv "lendcore.constants" 487) none (r 406) .none 0), List.toArray []⟩
noncomputable def o408 (P : Params) : Obj := tu []
noncomputable def o409 (P : Params) : Obj := fi []
noncomputable def o410 (P : Params) : Obj := tu [(sv "script" 781), (sv "cell" 782), (sv "great" 783)]
noncomputable def o411 (P : Params) : Obj := tu []
noncomputable def o412 (P : Params) : Obj := ⟨.none, none, (fn (st 33) "_law_pool" "_law_pool" 0 [] .none .none .none .none none .none .none 0), List.toArray []⟩
noncomputable def o413 (P : Params) : Obj := co [(sv "_law_pool" 778), (sv "_law_pool" 779), (sv "/claim/cut.py" 780), (.int 354 0), (.int 1 0), (.int 0 0), (.int 0 0), (.int 3 0), (r 408), (.bool true), (.int 181 0), (r 409), .none, (r 410), (r 411), (r 412), (.int 784 0), (.int 354 0), (sv "/claim/cut.py" 785)]
noncomputable def o414 (P : Params) : Obj := ⟨(.type "function"), none, (fn (st 33) "_law_pool" "_law_pool" 3 [] .none .none .none (sv "law_up0060_01" 776) none (r 413) .none 0), List.toArray []⟩
noncomputable def o415 (P : Params) : Obj := tu []
noncomputable def o416 (P : Params) : Obj := fi []
noncomputable def o417 (P : Params) : Obj := tu [(sv "source" 790), (sv "top" 791), (sv "drawn" 792)]
noncomputable def o418 (P : Params) : Obj := tu []
noncomputable def o419 (P : Params) : Obj := ⟨.none, none, (fn (st 34) "_law_take" "_law_take" 0 [] .none .none .none .none none .none .none 0), List.toArray []⟩
noncomputable def o420 (P : Params) : Obj := co [(sv "_law_take" 787), (sv "_law_take" 788), (sv "/claim/cut.py" 789), (.int 358 0), (.int 2 0), (.int 0 0), (.int 0 0), (.int 3 0), (r 415), (.bool true), (.int 181 0), (r 416), .none, (r 417), (r 418), (r 419), (.int 793 0), (.int 358 0), (sv "/claim/cut.py" 794)]
noncomputable def o421 (P : Params) : Obj := ⟨(.type "function"), none, (fn (st 34) "_law_take" "_law_take" 3 [] .none .none .none (sv "law_up0060_01" 776) none (r 420) .none 0), List.toArray []⟩
noncomputable def o422 (P : Params) : Obj := tu []
noncomputable def o423 (P : Params) : Obj := fi []
noncomputable def o424 (P : Params) : Obj := tu [(sv "source" 799), (sv "things" 800)]
noncomputable def o425 (P : Params) : Obj := tu []
noncomputable def o426 (P : Params) : Obj := ⟨.none, none, (fn (st 35) "_law_one" "_law_one" 0 [] .none .none .none .none none .none .none 0), List.toArray []⟩
noncomputable def o427 (P : Params) : Obj := co [(sv "_law_one" 796), (sv "_law_one" 797), (sv "/claim/cut.py" 798), (.int 365 0), (.int 2 0), (.int 0 0), (.int 0 0), (.int 3 0), (r 422), (.bool true), (.int 181 0), (r 423), .none, (r 424), (r 425), (r 426), (.int 801 0), (.int 365 0), (sv "/claim/cut.py" 802)]
noncomputable def o428 (P : Params) : Obj := ⟨(.type "function"), none, (fn (st 35) "_law_one" "_law_one" 3 [] .none .none .none (sv "law_up0060_01" 776) none (r 427) .none 0), List.toArray []⟩
noncomputable def o429 (P : Params) : Obj := tu []
noncomputable def o430 (P : Params) : Obj := fi []
noncomputable def o431 (P : Params) : Obj := tu []
noncomputable def o432 (P : Params) : Obj := tu []
noncomputable def o433 (P : Params) : Obj := ⟨.none, none, (fn (st 36) "_law_byte" "_law_byte" 0 [] .none .none .none .none none .none .none 0), List.toArray []⟩
noncomputable def o434 (P : Params) : Obj := co [(sv "_law_byte" 804), (sv "_law_byte" 805), (sv "/claim/cut.py" 806), (.int 367 0), (.int 0 0), (.int 0 0), (.int 0 0), (.int 3 0), (r 429), (.bool true), (.int 181 0), (r 430), .none, (r 431), (r 432), (r 433), (.int 807 0), (.int 367 0), (sv "/claim/cut.py" 808)]
noncomputable def o435 (P : Params) : Obj := ⟨(.type "function"), none, (fn (st 36) "_law_byte" "_law_byte" 3 [] .none .none .none (sv "law_up0060_01" 776) none (r 434) .none 0), List.toArray []⟩
noncomputable def o436 (P : Params) : Obj := tu []
noncomputable def o437 (P : Params) : Obj := fi []
noncomputable def o438 (P : Params) : Obj := ⟨.none, none, (fn (st 37) "_law_types" "_law_types" 0 [] .none .none .none .none none .none .none 0), List.toArray []⟩
noncomputable def o439 (P : Params) : Obj := co [(sv "_law_types" 810), (sv "_law_types" 811), (sv "/claim/cut.py" 812), (.int 369 0), (.int 0 0), (.int 0 0), (.int 0 0), (.int 3 0), (r 436), (.bool true), (.int 181 0), (r 437), .none, .none, .none, (r 438), (.int 813 0), (.int 369 0), (sv "/claim/cut.py" 814)]
noncomputable def o440 (P : Params) : Obj := ⟨(.type "function"), none, (fn (st 37) "_law_types" "_law_types" 3 [] .none .none .none (sv "law_up0060_01" 776) none (r 439) .none 0), List.toArray []⟩
noncomputable def o441 (P : Params) : Obj := tu []
noncomputable def o442 (P : Params) : Obj := fi []
noncomputable def o443 (P : Params) : Obj := tu [(sv "source" 819)]
noncomputable def o444 (P : Params) : Obj := tu []
noncomputable def o445 (P : Params) : Obj := ⟨.none, none, (fn (st 38) "_law_part" "_law_part" 0 [] .none .none .none .none none .none .none 0), List.toArray []⟩
noncomputable def o446 (P : Params) : Obj := co [(sv "_law_part" 816), (sv "_law_part" 817), (sv "/claim/cut.py" 818), (.int 373 0), (.int 1 0), (.int 0 0), (.int 0 0), (.int 3 0), (r 441), (.bool true), (.int 181 0), (r 442), .none, (r 443), (r 444), (r 445), (.int 820 0), (.int 373 0), (sv "/claim/cut.py" 821)]
noncomputable def o447 (P : Params) : Obj := ⟨(.type "function"), none, (fn (st 38) "_law_part" "_law_part" 3 [] .none .none .none (sv "law_up0060_01" 776) none (r 446) .none 0), List.toArray []⟩
noncomputable def o448 (P : Params) : Obj := tu []
noncomputable def o449 (P : Params) : Obj := fi []
noncomputable def o450 (P : Params) : Obj := tu [(sv "source" 826), (sv "way" 827)]
noncomputable def o451 (P : Params) : Obj := tu []
noncomputable def o452 (P : Params) : Obj := ⟨.none, none, (fn (st 39) "_law_operand" "_law_operand" 0 [] .none .none .none .none none .none .none 0), List.toArray []⟩
noncomputable def o453 (P : Params) : Obj := co [(sv "_law_operand" 823), (sv "_law_operand" 824), (sv "/claim/cut.py" 825), (.int 375 0), (.int 1 0), (.int 0 0), (.int 0 0), (.int 3 0), (r 448), (.bool true), (.int 181 0), (r 449), .none, (r 450), (r 451), (r 452), (.int 828 0), (.int 375 0), (sv "/claim/cut.py" 829)]
noncomputable def o454 (P : Params) : Obj := ⟨(.type "function"), none, (fn (st 39) "_law_operand" "_law_operand" 3 [] .none .none .none (sv "law_up0060_01" 776) none (r 453) .none 0), List.toArray []⟩
noncomputable def o455 (P : Params) : Obj := tu []
noncomputable def o456 (P : Params) : Obj := fi []
noncomputable def o457 (P : Params) : Obj := tu [(sv "source" 834), (sv "way" 835), (sv "byte" 836)]
noncomputable def o458 (P : Params) : Obj := tu []
noncomputable def o459 (P : Params) : Obj := ⟨.none, none, (fn (st 40) "_law_row" "_law_row" 0 [] .none .none .none .none none .none .none 0), List.toArray []⟩
noncomputable def o460 (P : Params) : Obj := co [(sv "_law_row" 831), (sv "_law_row" 832), (sv "/claim/cut.py" 833), (.int 380 0), (.int 1 0), (.int 0 0), (.int 0 0), (.int 3 0), (r 455), (.bool true), (.int 181 0), (r 456), .none, (r 457), (r 458), (r 459), (.int 837 0), (.int 380 0), (sv "/claim/cut.py" 838)]
noncomputable def o461 (P : Params) : Obj := ⟨(.type "function"), none, (fn (st 40) "_law_row" "_law_row" 3 [] .none .none .none (sv "law_up0060_01" 776) none (r 460) .none 0), List.toArray []⟩
noncomputable def o462 (P : Params) : Obj := tu []
noncomputable def o463 (P : Params) : Obj := fi []
noncomputable def o464 (P : Params) : Obj := tu [(sv "source" 843), (sv "behind" 844), (sv "way" 845), (sv "place" 846)]
noncomputable def o465 (P : Params) : Obj := tu []
noncomputable def o466 (P : Params) : Obj := ⟨.none, none, (fn (st 41) "_law_end" "_law_end" 0 [] .none .none .none .none none .none .none 0), List.toArray []⟩
noncomputable def o467 (P : Params) : Obj := co [(sv "_law_end" 840), (sv "_law_end" 841), (sv "/claim/cut.py" 842), (.int 393 0), (.int 2 0), (.int 0 0), (.int 0 0), (.int 3 0), (r 462), (.bool true), (.int 181 0), (r 463), .none, (r 464), (r 465), (r 466), (.int 847 0), (.int 393 0), (sv "/claim/cut.py" 848)]
noncomputable def o468 (P : Params) : Obj := ⟨(.type "function"), none, (fn (st 41) "_law_end" "_law_end" 3 [] .none .none .none (sv "law_up0060_01" 776) none (r 467) .none 0), List.toArray []⟩
noncomputable def o469 (P : Params) : Obj := tu []
noncomputable def o470 (P : Params) : Obj := fi []
noncomputable def o471 (P : Params) : Obj := ⟨.none, none, (fn (st 42) "_law_blocks" "_law_blocks" 0 [] .none .none .none .none none .none .none 0), List.toArray []⟩
noncomputable def o472 (P : Params) : Obj := co [(sv "_law_blocks" 850), (sv "_law_blocks" 851), (sv "/claim/cut.py" 852), (.int 398 0), (.int 1 0), (.int 0 0), (.int 0 0), (.int 3 0), (r 469), (.bool true), (.int 181 0), (r 470), .none, .none, .none, (r 471), (.int 853 0), (.int 398 0), (sv "/claim/cut.py" 854)]
noncomputable def o473 (P : Params) : Obj := ⟨(.type "function"), none, (fn (st 42) "_law_blocks" "_law_blocks" 3 [] .none .none .none (sv "law_up0060_01" 776) none (r 472) .none 0), List.toArray []⟩
noncomputable def o474 (P : Params) : Obj := tu []
noncomputable def o475 (P : Params) : Obj := fi []
noncomputable def o476 (P : Params) : Obj := tu [(sv "known" 859), (sv "operand" 860), (sv "held" 861), (sv "steps" 862)]
noncomputable def o477 (P : Params) : Obj := tu []
noncomputable def o478 (P : Params) : Obj := ⟨.none, none, (fn (st 43) "_law_worth" "_law_worth" 0 [] .none .none .none .none none .none .none 0), List.toArray []⟩
noncomputable def o479 (P : Params) : Obj := co [(sv "_law_worth" 856), (sv "_law_worth" 857), (sv "/claim/cut.py" 858), (.int 407 0), (.int 2 0), (.int 0 0), (.int 0 0), (.int 3 0), (r 474), (.bool true), (.int 181 0), (r 475), .none, (r 476), (r 477), (r 478), (.int 863 0), (.int 407 0), (sv "/claim/cut.py" 864)]
noncomputable def o480 (P : Params) : Obj := ⟨(.type "function"), none, (fn (st 43) "_law_worth" "_law_worth" 3 [] .none .none .none (sv "law_up0060_01" 776) none (r 479) .none 0), List.toArray []⟩
noncomputable def o481 (P : Params) : Obj := tu []
noncomputable def o482 (P : Params) : Obj := fi []
noncomputable def o483 (P : Params) : Obj := tu [(sv "known" 869), (sv "operand" 870), (sv "worth" 871)]
noncomputable def o484 (P : Params) : Obj := tu []
noncomputable def o485 (P : Params) : Obj := ⟨.none, none, (fn (st 44) "_law_told" "_law_told" 0 [] .none .none .none .none none .none .none 0), List.toArray []⟩
noncomputable def o486 (P : Params) : Obj := co [(sv "_law_told" 866), (sv "_law_told" 867), (sv "/claim/cut.py" 868), (.int 412 0), (.int 2 0), (.int 0 0), (.int 0 0), (.int 3 0), (r 481), (.bool true), (.int 181 0), (r 482), .none, (r 483), (r 484), (r 485), (.int 872 0), (.int 412 0), (sv "/claim/cut.py" 873)]
noncomputable def o487 (P : Params) : Obj := ⟨(.type "function"), none, (fn (st 44) "_law_told" "_law_told" 3 [] .none .none .none (sv "law_up0060_01" 776) none (r 486) .none 0), List.toArray []⟩
noncomputable def o488 (P : Params) : Obj := tu []
noncomputable def o489 (P : Params) : Obj := fi []
noncomputable def o490 (P : Params) : Obj := ⟨.none, none, (fn (st 45) "_law_made" "_law_made" 0 [] .none .none .none .none none .none .none 0), List.toArray []⟩
noncomputable def o491 (P : Params) : Obj := co [(sv "_law_made" 875), (sv "_law_made" 876), (sv "/claim/cut.py" 877), (.int 415 0), (.int 2 0), (.int 0 0), (.int 0 0), (.int 3 0), (r 488), (.bool true), (.int 181 0), (r 489), .none, .none, .none, (r 490), (.int 878 0), (.int 415 0), (sv "/claim/cut.py" 879)]
noncomputable def o492 (P : Params) : Obj := ⟨(.type "function"), none, (fn (st 45) "_law_made" "_law_made" 3 [] .none .none .none (sv "law_up0060_01" 776) none (r 491) .none 0), List.toArray []⟩
noncomputable def o493 (P : Params) : Obj := tu []
noncomputable def o494 (P : Params) : Obj := fi []
noncomputable def o495 (P : Params) : Obj := ⟨.none, none, (fn (st 46) "_law_behind" "_law_behind" 0 [] .none .none .none .none none .none .none 0), List.toArray []⟩
noncomputable def o496 (P : Params) : Obj := co [(sv "_law_behind" 881), (sv "_law_behind" 882), (sv "/claim/cut.py" 883), (.int 423 0), (.int 3 0), (.int 0 0), (.int 0 0), (.int 3 0), (r 493), (.bool true), (.int 181 0), (r 494), .none, .none, .none, (r 495), (.int 884 0), (.int 423 0), (sv "/claim/cut.py" 885)]
noncomputable def o497 (P : Params) : Obj := ⟨(.type "function"), none, (fn (st 46) "_law_behind" "_law_behind" 3 [] .none .none .none (sv "law_up0060_01" 776) none (r 496) .none 0), List.toArray []⟩
noncomputable def o498 (P : Params) : Obj := tu []
noncomputable def o499 (P : Params) : Obj := fi []
noncomputable def o500 (P : Params) : Obj := ⟨.none, none, (fn (st 47) "_law_due" "_law_due" 0 [] .none .none .none .none none .none .none 0), List.toArray []⟩
noncomputable def o501 (P : Params) : Obj := co [(sv "_law_due" 887), (sv "_law_due" 888), (sv "/claim/cut.py" 889), (.int 435 0), (.int 1 0), (.int 0 0), (.int 0 0), (.int 3 0), (r 498), (.bool true), (.int 181 0), (r 499), .none, .none, .none, (r 500), (.int 890 0), (.int 435 0), (sv "/claim/cut.py" 891)]
noncomputable def o502 (P : Params) : Obj := ⟨(.type "function"), none, (fn (st 47) "_law_due" "_law_due" 3 [] .none .none .none (sv "law_up0060_01" 776) none (r 501) .none 0), List.toArray []⟩
noncomputable def o503 (P : Params) : Obj := tu []
noncomputable def o504 (P : Params) : Obj := fi []
noncomputable def o505 (P : Params) : Obj := ⟨.none, none, (fn (st 48) "_law_is_so" "_law_is_so" 0 [] .none .none .none .none none .none .none 0), List.toArray []⟩
noncomputable def o506 (P : Params) : Obj := co [(sv "_law_is_so" 893), (sv "_law_is_so" 894), (sv "/claim/cut.py" 895), (.int 449 0), (.int 3 0), (.int 0 0), (.int 0 0), (.int 3 0), (r 503), (.bool true), (.int 181 0), (r 504), .none, .none, .none, (r 505), (.int 896 0), (.int 449 0), (sv "/claim/cut.py" 897)]
noncomputable def o507 (P : Params) : Obj := ⟨(.type "function"), none, (fn (st 48) "_law_is_so" "_law_is_so" 3 [] .none .none .none (sv "law_up0060_01" 776) none (r 506) .none 0), List.toArray []⟩
noncomputable def o508 (P : Params) : Obj := tu []
noncomputable def o509 (P : Params) : Obj := fi []
noncomputable def o510 (P : Params) : Obj := ⟨.none, none, (fn (st 49) "law" "law" 0 [] .none .none .none .none none .none .none 0), List.toArray []⟩
noncomputable def o511 (P : Params) : Obj := co [(sv "law" 899), (sv "law" 900), (sv "/claim/cut.py" 901), (.int 453 0), (.int 1 0), (.int 0 0), (.int 0 0), (.int 3 0), (r 508), (.bool true), (.int 181 0), (r 509), .none, .none, .none, (r 510), (.int 902 0), (.int 453 0), (sv "/claim/cut.py" 903)]
noncomputable def o512 (P : Params) : Obj := ⟨(.type "function"), none, (fn (st 49) "law" "law" 3 [] .none .none .none (sv "law_up0060_01" 776) none (r 511) .none 0), List.toArray []⟩
noncomputable def hd.heap_39 (P : Params) : Frag := [(2, o2 P), (3, o3 P), (15, o15 P), (17, o17 P), (18, o18 P), (20, o20 P), (21, o21 P), (22, o22 P), (29, o29 P), (30, o30 P), (32, o32 P), (33, o33 P), (35, o35 P), (36, o36 P), (37, o37 P), (38, o38 P), (39, o39 P), (40, o40 P), (43, o43 P), (50, o50 P), (51, o51 P), (52, o52 P), (55, o55 P), (56, o56 P), (58, o58 P), (59, o59 P), (61, o61 P), (62, o62 P), (63, o63 P), (65, o65 P), (66, o66 P), (68, o68 P), (69, o69 P), (70, o70 P), (72, o72 P), (73, o73 P), (75, o75 P), (76, o76 P), (77, o77 P), (79, o79 P), (80, o80 P), (82, o82 P), (83, o83 P), (84, o84 P), (86, o86 P), (87, o87 P), (89, o89 P), (90, o90 P), (91, o91 P), (93, o93 P), (94, o94 P), (96, o96 P), (97, o97 P), (98, o98 P), (100, o100 P), (101, o101 P), (103, o103 P), (104, o104 P), (105, o105 P), (107, o107 P), (108, o108 P), (110, o110 P), (111, o111 P), (112, o112 P), (114, o114 P), (115, o115 P), (117, o117 P), (118, o118 P), (119, o119 P), (121, o121 P), (122, o122 P), (124, o124 P), (125, o125 P), (126, o126 P), (128, o128 P), (129, o129 P), (131, o131 P), (132, o132 P), (140, o140 P), (141, o141 P), (143, o143 P), (144, o144 P), (146, o146 P), (147, o147 P), (148, o148 P), (150, o150 P), (151, o151 P), (153, o153 P), (154, o154 P), (155, o155 P), (157, o157 P), (158, o158 P), (160, o160 P), (161, o161 P), (162, o162 P), (164, o164 P), (165, o165 P), (167, o167 P), (168, o168 P), (169, o169 P), (171, o171 P), (172, o172 P), (174, o174 P), (175, o175 P), (176, o176 P), (178, o178 P), (179, o179 P), (181, o181 P), (182, o182 P), (183, o183 P), (184, o184 P), (186, o186 P), (187, o187 P), (189, o189 P), (190, o190 P), (191, o191 P), (192, o192 P), (193, o193 P), (194, o194 P), (195, o195 P), (198, o198 P), (201, o201 P), (202, o202 P), (203, o203 P), (206, o206 P), (207, o207 P), (208, o208 P), (210, o210 P), (211, o211 P), (213, o213 P), (214, o214 P), (215, o215 P), (217, o217 P), (218, o218 P), (220, o220 P), (221, o221 P), (222, o222 P), (223, o223 P), (224, o224 P), (227, o227 P), (228, o228 P), (229, o229 P), (231, o231 P), (232, o232 P), (234, o234 P), (235, o235 P), (243, o243 P), (245, o245 P), (246, o246 P), (248, o248 P), (249, o249 P), (250, o250 P), (252, o252 P), (253, o253 P), (255, o255 P), (256, o256 P), (257, o257 P), (259, o259 P), (260, o260 P), (262, o262 P), (263, o263 P), (264, o264 P), (266, o266 P), (267, o267 P), (269, o269 P), (270, o270 P), (271, o271 P), (272, o272 P), (273, o273 P), (274, o274 P), (275, o275 P), (278, o278 P), (280, o280 P), (281, o281 P), (283, o283 P), (284, o284 P), (292, o292 P), (294, o294 P), (295, o295 P), (297, o297 P), (298, o298 P), (299, o299 P), (301, o301 P), (302, o302 P), (304, o304 P), (305, o305 P), (306, o306 P), (309, o309 P), (310, o310 P), (311, o311 P), (313, o313 P), (314, o314 P), (316, o316 P), (317, o317 P), (318, o318 P), (320, o320 P), (321, o321 P), (323, o323 P), (324, o324 P), (325, o325 P), (327, o327 P), (328, o328 P), (330, o330 P), (331, o331 P), (332, o332 P), (334, o334 P), (335, o335 P), (337, o337 P), (338, o338 P), (339, o339 P), (341, o341 P), (342, o342 P), (344, o344 P), (345, o345 P), (346, o346 P), (349, o349 P), (350, o350 P), (351, o351 P), (353, o353 P), (354, o354 P), (356, o356 P), (357, o357 P), (358, o358 P), (361, o361 P), (362, o362 P), (363, o363 P), (365, o365 P), (366, o366 P), (368, o368 P), (369, o369 P), (370, o370 P), (372, o372 P), (373, o373 P), (375, o375 P), (376, o376 P), (377, o377 P), (380, o380 P), (381, o381 P), (382, o382 P), (384, o384 P), (385, o385 P), (387, o387 P), (388, o388 P), (389, o389 P), (392, o392 P), (393, o393 P), (394, o394 P), (395, o395 P), (396, o396 P), (397, o397 P), (398, o398 P), (401, o401 P), (403, o403 P), (404, o404 P), (406, o406 P), (407, o407 P), (408, o408 P), (410, o410 P), (411, o411 P), (413, o413 P), (414, o414 P), (415, o415 P), (417, o417 P), (418, o418 P), (420, o420 P), (421, o421 P), (422, o422 P), (424, o424 P), (425, o425 P), (427, o427 P), (428, o428 P), (429, o429 P), (431, o431 P), (432, o432 P), (434, o434 P), (435, o435 P), (436, o436 P), (439, o439 P), (440, o440 P), (441, o441 P), (443, o443 P), (444, o444 P), (446, o446 P), (447, o447 P), (448, o448 P), (450, o450 P), (451, o451 P), (453, o453 P), (454, o454 P), (455, o455 P), (457, o457 P), (458, o458 P), (460, o460 P), (461, o461 P), (462, o462 P), (464, o464 P), (465, o465 P), (467, o467 P), (468, o468 P), (469, o469 P), (472, o472 P), (473, o473 P), (474, o474 P), (476, o476 P), (477, o477 P), (479, o479 P), (480, o480 P), (481, o481 P), (483, o483 P), (484, o484 P), (486, o486 P), (487, o487 P), (488, o488 P), (491, o491 P), (492, o492 P), (493, o493 P), (496, o496 P), (497, o497 P), (498, o498 P), (501, o501 P), (502, o502 P), (503, o503 P), (506, o506 P), (507, o507 P), (508, o508 P), (511, o511 P), (512, o512 P)]
noncomputable def hd.as : List Nat := [2, 3, 15, 17, 18, 20, 21, 22, 29, 30, 32, 33, 35, 36, 37, 38, 39, 40, 43, 50, 51, 52, 55, 56, 58, 59, 61, 62, 63, 65, 66, 68, 69, 70, 72, 73, 75, 76, 77, 79, 80, 82, 83, 84, 86, 87, 89, 90, 91, 93, 94, 96, 97, 98, 100, 101, 103, 104, 105, 107, 108, 110, 111, 112, 114, 115, 117, 118, 119, 121, 122, 124, 125, 126, 128, 129, 131, 132, 140, 141, 143, 144, 146, 147, 148, 150, 151, 153, 154, 155, 157, 158, 160, 161, 162, 164, 165, 167, 168, 169, 171, 172, 174, 175, 176, 178, 179, 181, 182, 183, 184, 186, 187, 189, 190, 191, 192, 193, 194, 195, 198, 201, 202, 203, 206, 207, 208, 210, 211, 213, 214, 215, 217, 218, 220, 221, 222, 223, 224, 227, 228, 229, 231, 232, 234, 235, 243, 245, 246, 248, 249, 250, 252, 253, 255, 256, 257, 259, 260, 262, 263, 264, 266, 267, 269, 270, 271, 272, 273, 274, 275, 278, 280, 281, 283, 284, 292, 294, 295, 297, 298, 299, 301, 302, 304, 305, 306, 309, 310, 311, 313, 314, 316, 317, 318, 320, 321, 323, 324, 325, 327, 328, 330, 331, 332, 334, 335, 337, 338, 339, 341, 342, 344, 345, 346, 349, 350, 351, 353, 354, 356, 357, 358, 361, 362, 363, 365, 366, 368, 369, 370, 372, 373, 375, 376, 377, 380, 381, 382, 384, 385, 387, 388, 389, 392, 393, 394, 395, 396, 397, 398, 401, 403, 404, 406, 407, 408, 410, 411, 413, 414, 415, 417, 418, 420, 421, 422, 424, 425, 427, 428, 429, 431, 432, 434, 435, 436, 439, 440, 441, 443, 444, 446, 447, 448, 450, 451, 453, 454, 455, 457, 458, 460, 461, 462, 464, 465, 467, 468, 469, 472, 473, 474, 476, 477, 479, 480, 481, 483, 484, 486, 487, 488, 491, 492, 493, 496, 497, 498, 501, 502, 503, 506, 507, 508, 511, 512]
noncomputable def hd.view_39 : Program := PySem.W.view pw [0, 2, 3, 5, 6, 7, 8, 9, 10, 11, 12, 13, 14, 15, 16, 18, 19, 20, 21, 22, 24, 25, 26, 27, 28, 29, 30, 31, 33, 34, 35, 36, 37, 38, 39, 40, 41, 42, 43, 44, 45, 46, 47, 48, 49]
noncomputable def T (n : Nat) (y2 y3 y12 : Obj) (P : Params) : BT := (nd n 0 (PySem.W.boot_o_0 P) (nd n 1 (PySem.W.boot_o_1 P) (nd n 3 y3 (nd n 7 (PySem.W.boot_o_7 P) (nd n 15 (o15 P) (nd n 31 (o31 P) (nd n 63 (o63 P) (nd n 127 (o127 P) (nd n 255 (o255 P) (nd n 511 (o511 P) .nil .nil) .nil) (nd n 383 (o383 P) .nil .nil)) (nd n 191 (o191 P) (nd n 319 (o319 P) .nil .nil) (nd n 447 (o447 P) .nil .nil))) (nd n 95 (o95 P) (nd n 159 (o159 P) (nd n 287 (o287 P) .nil .nil) (nd n 415 (o415 P) .nil .nil)) (nd n 223 (o223 P) (nd n 351 (o351 P) .nil .nil) (nd n 479 (o479 P) .nil .nil)))) (nd n 47 (o47 P) (nd n 79 (o79 P) (nd n 143 (o143 P) (nd n 271 (o271 P) .nil .nil) (nd n 399 (o399 P) .nil .nil)) (nd n 207 (o207 P) (nd n 335 (o335 P) .nil .nil) (nd n 463 (o463 P) .nil .nil))) (nd n 111 (o111 P) (nd n 175 (o175 P) (nd n 303 (o303 P) .nil .nil) (nd n 431 (o431 P) .nil .nil)) (nd n 239 (o239 P) (nd n 367 (o367 P) .nil .nil) (nd n 495 (o495 P) .nil .nil))))) (nd n 23 (o23 P) (nd n 39 (o39 P) (nd n 71 (o71 P) (nd n 135 (o135 P) (nd n 263 (o263 P) .nil .nil) (nd n 391 (o391 P) .nil .nil)) (nd n 199 (o199 P) (nd n 327 (o327 P) .nil .nil) (nd n 455 (o455 P) .nil .nil))) (nd n 103 (o103 P) (nd n 167 (o167 P) (nd n 295 (o295 P) .nil .nil) (nd n 423 (o423 P) .nil .nil)) (nd n 231 (o231 P) (nd n 359 (o359 P) .nil .nil) (nd n 487 (o487 P) .nil .nil)))) (nd n 55 (o55 P) (nd n 87 (o87 P) (nd n 151 (o151 P) (nd n 279 (o279 P) .nil .nil) (nd n 407 (o407 P) .nil .nil)) (nd n 215 (o215 P) (nd n 343 (o343 P) .nil .nil) (nd n 471 (o471 P) .nil .nil))) (nd n 119 (o119 P) (nd n 183 (o183 P) (nd n 311 (o311 P) .nil .nil) (nd n 439 (o439 P) .nil .nil)) (nd n 247 (o247 P) (nd n 375 (o375 P) .nil .nil) (nd n 503 (o503 P) .nil .nil)))))) (nd n 11 (o11 P) (nd n 19 (o19 P) (nd n 35 (o35 P) (nd n 67 (o67 P) (nd n 131 (o131 P) (nd n 259 (o259 P) .nil .nil) (nd n 387 (o387 P) .nil .nil)) (nd n 195 (o195 P) (nd n 323 (o323 P) .nil .nil) (nd n 451 (o451 P) .nil .nil))) (nd n 99 (o99 P) (nd n 163 (o163 P) (nd n 291 (o291 P) .nil .nil) (nd n 419 (o419 P) .nil .nil)) (nd n 227 (o227 P) (nd n 355 (o355 P) .nil .nil) (nd n 483 (o483 P) .nil .nil)))) (nd n 51 (o51 P) (nd n 83 (o83 P) (nd n 147 (o147 P) (nd n 275 (o275 P) .nil .nil) (nd n 403 (o403 P) .nil .nil)) (nd n 211 (o211 P) (nd n 339 (o339 P) .nil .nil) (nd n 467 (o467 P) .nil .nil))) (nd n 115 (o115 P) (nd n 179 (o179 P) (nd n 307 (o307 P) .nil .nil) (nd n 435 (o435 P) .nil .nil)) (nd n 243 (o243 P) (nd n 371 (o371 P) .nil .nil) (nd n 499 (o499 P) .nil .nil))))) (nd n 27 (o27 P) (nd n 43 (o43 P) (nd n 75 (o75 P) (nd n 139 (o139 P) (nd n 267 (o267 P) .nil .nil) (nd n 395 (o395 P) .nil .nil)) (nd n 203 (o203 P) (nd n 331 (o331 P) .nil .nil) (nd n 459 (o459 P) .nil .nil))) (nd n 107 (o107 P) (nd n 171 (o171 P) (nd n 299 (o299 P) .nil .nil) (nd n 427 (o427 P) .nil .nil)) (nd n 235 (o235 P) (nd n 363 (o363 P) .nil .nil) (nd n 491 (o491 P) .nil .nil)))) (nd n 59 (o59 P) (nd n 91 (o91 P) (nd n 155 (o155 P) (nd n 283 (o283 P) .nil .nil) (nd n 411 (o411 P) .nil .nil)) (nd n 219 (o219 P) (nd n 347 (o347 P) .nil .nil) (nd n 475 (o475 P) .nil .nil))) (nd n 123 (o123 P) (nd n 187 (o187 P) (nd n 315 (o315 P) .nil .nil) (nd n 443 (o443 P) .nil .nil)) (nd n 251 (o251 P) (nd n 379 (o379 P) .nil .nil) (nd n 507 (o507 P) .nil .nil))))))) (nd n 5 (PySem.W.boot_o_5 P) (nd n 9 (PySem.W.boot_o_9 P) (nd n 17 (o17 P) (nd n 33 (o33 P) (nd n 65 (o65 P) (nd n 129 (o129 P) (nd n 257 (o257 P) .nil .nil) (nd n 385 (o385 P) .nil .nil)) (nd n 193 (o193 P) (nd n 321 (o321 P) .nil .nil) (nd n 449 (o449 P) .nil .nil))) (nd n 97 (o97 P) (nd n 161 (o161 P) (nd n 289 (o289 P) .nil .nil) (nd n 417 (o417 P) .nil .nil)) (nd n 225 (o225 P) (nd n 353 (o353 P) .nil .nil) (nd n 481 (o481 P) .nil .nil)))) (nd n 49 (o49 P) (nd n 81 (o81 P) (nd n 145 (o145 P) (nd n 273 (o273 P) .nil .nil) (nd n 401 (o401 P) .nil .nil)) (nd n 209 (o209 P) (nd n 337 (o337 P) .nil .nil) (nd n 465 (o465 P) .nil .nil))) (nd n 113 (o113 P) (nd n 177 (o177 P) (nd n 305 (o305 P) .nil .nil) (nd n 433 (o433 P) .nil .nil)) (nd n 241 (o241 P) (nd n 369 (o369 P) .nil .nil) (nd n 497 (o497 P) .nil .nil))))) (nd n 25 (o25 P) (nd n 41 (o41 P) (nd n 73 (o73 P) (nd n 137 (o137 P) (nd n 265 (o265 P) .nil .nil) (nd n 393 (o393 P) .nil .nil)) (nd n 201 (o201 P) (nd n 329 (o329 P) .nil .nil) (nd n 457 (o457 P) .nil .nil))) (nd n 105 (o105 P) (nd n 169 (o169 P) (nd n 297 (o297 P) .nil .nil) (nd n 425 (o425 P) .nil .nil)) (nd n 233 (o233 P) (nd n 361 (o361 P) .nil .nil) (nd n 489 (o489 P) .nil .nil)))) (nd n 57 (o57 P) (nd n 89 (o89 P) (nd n 153 (o153 P) (nd n 281 (o281 P) .nil .nil) (nd n 409 (o409 P) .nil .nil)) (nd n 217 (o217 P) (nd n 345 (o345 P) .nil .nil) (nd n 473 (o473 P) .nil .nil))) (nd n 121 (o121 P) (nd n 185 (o185 P) (nd n 313 (o313 P) .nil .nil) (nd n 441 (o441 P) .nil .nil)) (nd n 249 (o249 P) (nd n 377 (o377 P) .nil .nil) (nd n 505 (o505 P) .nil .nil)))))) (nd n 13 (o13 P) (nd n 21 (o21 P) (nd n 37 (o37 P) (nd n 69 (o69 P) (nd n 133 (o133 P) (nd n 261 (o261 P) .nil .nil) (nd n 389 (o389 P) .nil .nil)) (nd n 197 (o197 P) (nd n 325 (o325 P) .nil .nil) (nd n 453 (o453 P) .nil .nil))) (nd n 101 (o101 P) (nd n 165 (o165 P) (nd n 293 (o293 P) .nil .nil) (nd n 421 (o421 P) .nil .nil)) (nd n 229 (o229 P) (nd n 357 (o357 P) .nil .nil) (nd n 485 (o485 P) .nil .nil)))) (nd n 53 (o53 P) (nd n 85 (o85 P) (nd n 149 (o149 P) (nd n 277 (o277 P) .nil .nil) (nd n 405 (o405 P) .nil .nil)) (nd n 213 (o213 P) (nd n 341 (o341 P) .nil .nil) (nd n 469 (o469 P) .nil .nil))) (nd n 117 (o117 P) (nd n 181 (o181 P) (nd n 309 (o309 P) .nil .nil) (nd n 437 (o437 P) .nil .nil)) (nd n 245 (o245 P) (nd n 373 (o373 P) .nil .nil) (nd n 501 (o501 P) .nil .nil))))) (nd n 29 (o29 P) (nd n 45 (o45 P) (nd n 77 (o77 P) (nd n 141 (o141 P) (nd n 269 (o269 P) .nil .nil) (nd n 397 (o397 P) .nil .nil)) (nd n 205 (o205 P) (nd n 333 (o333 P) .nil .nil) (nd n 461 (o461 P) .nil .nil))) (nd n 109 (o109 P) (nd n 173 (o173 P) (nd n 301 (o301 P) .nil .nil) (nd n 429 (o429 P) .nil .nil)) (nd n 237 (o237 P) (nd n 365 (o365 P) .nil .nil) (nd n 493 (o493 P) .nil .nil)))) (nd n 61 (o61 P) (nd n 93 (o93 P) (nd n 157 (o157 P) (nd n 285 (o285 P) .nil .nil) (nd n 413 (o413 P) .nil .nil)) (nd n 221 (o221 P) (nd n 349 (o349 P) .nil .nil) (nd n 477 (o477 P) .nil .nil))) (nd n 125 (o125 P) (nd n 189 (o189 P) (nd n 317 (o317 P) .nil .nil) (nd n 445 (o445 P) .nil .nil)) (nd n 253 (o253 P) (nd n 381 (o381 P) .nil .nil) (nd n 509 (o509 P) .nil .nil)))))))) (nd n 2 y2 (nd n 4 (PySem.W.boot_o_4 P) (nd n 8 (PySem.W.boot_o_8 P) (nd n 16 (o16 P) (nd n 32 (o32 P) (nd n 64 (o64 P) (nd n 128 (o128 P) (nd n 256 (o256 P) (nd n 512 (o512 P) .nil .nil) .nil) (nd n 384 (o384 P) .nil .nil)) (nd n 192 (o192 P) (nd n 320 (o320 P) .nil .nil) (nd n 448 (o448 P) .nil .nil))) (nd n 96 (o96 P) (nd n 160 (o160 P) (nd n 288 (o288 P) .nil .nil) (nd n 416 (o416 P) .nil .nil)) (nd n 224 (o224 P) (nd n 352 (o352 P) .nil .nil) (nd n 480 (o480 P) .nil .nil)))) (nd n 48 (o48 P) (nd n 80 (o80 P) (nd n 144 (o144 P) (nd n 272 (o272 P) .nil .nil) (nd n 400 (o400 P) .nil .nil)) (nd n 208 (o208 P) (nd n 336 (o336 P) .nil .nil) (nd n 464 (o464 P) .nil .nil))) (nd n 112 (o112 P) (nd n 176 (o176 P) (nd n 304 (o304 P) .nil .nil) (nd n 432 (o432 P) .nil .nil)) (nd n 240 (o240 P) (nd n 368 (o368 P) .nil .nil) (nd n 496 (o496 P) .nil .nil))))) (nd n 24 (o24 P) (nd n 40 (o40 P) (nd n 72 (o72 P) (nd n 136 (o136 P) (nd n 264 (o264 P) .nil .nil) (nd n 392 (o392 P) .nil .nil)) (nd n 200 (o200 P) (nd n 328 (o328 P) .nil .nil) (nd n 456 (o456 P) .nil .nil))) (nd n 104 (o104 P) (nd n 168 (o168 P) (nd n 296 (o296 P) .nil .nil) (nd n 424 (o424 P) .nil .nil)) (nd n 232 (o232 P) (nd n 360 (o360 P) .nil .nil) (nd n 488 (o488 P) .nil .nil)))) (nd n 56 (o56 P) (nd n 88 (o88 P) (nd n 152 (o152 P) (nd n 280 (o280 P) .nil .nil) (nd n 408 (o408 P) .nil .nil)) (nd n 216 (o216 P) (nd n 344 (o344 P) .nil .nil) (nd n 472 (o472 P) .nil .nil))) (nd n 120 (o120 P) (nd n 184 (o184 P) (nd n 312 (o312 P) .nil .nil) (nd n 440 (o440 P) .nil .nil)) (nd n 248 (o248 P) (nd n 376 (o376 P) .nil .nil) (nd n 504 (o504 P) .nil .nil)))))) (nd n 12 y12 (nd n 20 (o20 P) (nd n 36 (o36 P) (nd n 68 (o68 P) (nd n 132 (o132 P) (nd n 260 (o260 P) .nil .nil) (nd n 388 (o388 P) .nil .nil)) (nd n 196 (o196 P) (nd n 324 (o324 P) .nil .nil) (nd n 452 (o452 P) .nil .nil))) (nd n 100 (o100 P) (nd n 164 (o164 P) (nd n 292 (o292 P) .nil .nil) (nd n 420 (o420 P) .nil .nil)) (nd n 228 (o228 P) (nd n 356 (o356 P) .nil .nil) (nd n 484 (o484 P) .nil .nil)))) (nd n 52 (o52 P) (nd n 84 (o84 P) (nd n 148 (o148 P) (nd n 276 (o276 P) .nil .nil) (nd n 404 (o404 P) .nil .nil)) (nd n 212 (o212 P) (nd n 340 (o340 P) .nil .nil) (nd n 468 (o468 P) .nil .nil))) (nd n 116 (o116 P) (nd n 180 (o180 P) (nd n 308 (o308 P) .nil .nil) (nd n 436 (o436 P) .nil .nil)) (nd n 244 (o244 P) (nd n 372 (o372 P) .nil .nil) (nd n 500 (o500 P) .nil .nil))))) (nd n 28 (o28 P) (nd n 44 (o44 P) (nd n 76 (o76 P) (nd n 140 (o140 P) (nd n 268 (o268 P) .nil .nil) (nd n 396 (o396 P) .nil .nil)) (nd n 204 (o204 P) (nd n 332 (o332 P) .nil .nil) (nd n 460 (o460 P) .nil .nil))) (nd n 108 (o108 P) (nd n 172 (o172 P) (nd n 300 (o300 P) .nil .nil) (nd n 428 (o428 P) .nil .nil)) (nd n 236 (o236 P) (nd n 364 (o364 P) .nil .nil) (nd n 492 (o492 P) .nil .nil)))) (nd n 60 (o60 P) (nd n 92 (o92 P) (nd n 156 (o156 P) (nd n 284 (o284 P) .nil .nil) (nd n 412 (o412 P) .nil .nil)) (nd n 220 (o220 P) (nd n 348 (o348 P) .nil .nil) (nd n 476 (o476 P) .nil .nil))) (nd n 124 (o124 P) (nd n 188 (o188 P) (nd n 316 (o316 P) .nil .nil) (nd n 444 (o444 P) .nil .nil)) (nd n 252 (o252 P) (nd n 380 (o380 P) .nil .nil) (nd n 508 (o508 P) .nil .nil))))))) (nd n 6 (PySem.W.boot_o_6 P) (nd n 10 (PySem.W.boot_o_10 P) (nd n 18 (o18 P) (nd n 34 (o34 P) (nd n 66 (o66 P) (nd n 130 (o130 P) (nd n 258 (o258 P) .nil .nil) (nd n 386 (o386 P) .nil .nil)) (nd n 194 (o194 P) (nd n 322 (o322 P) .nil .nil) (nd n 450 (o450 P) .nil .nil))) (nd n 98 (o98 P) (nd n 162 (o162 P) (nd n 290 (o290 P) .nil .nil) (nd n 418 (o418 P) .nil .nil)) (nd n 226 (o226 P) (nd n 354 (o354 P) .nil .nil) (nd n 482 (o482 P) .nil .nil)))) (nd n 50 (o50 P) (nd n 82 (o82 P) (nd n 146 (o146 P) (nd n 274 (o274 P) .nil .nil) (nd n 402 (o402 P) .nil .nil)) (nd n 210 (o210 P) (nd n 338 (o338 P) .nil .nil) (nd n 466 (o466 P) .nil .nil))) (nd n 114 (o114 P) (nd n 178 (o178 P) (nd n 306 (o306 P) .nil .nil) (nd n 434 (o434 P) .nil .nil)) (nd n 242 (o242 P) (nd n 370 (o370 P) .nil .nil) (nd n 498 (o498 P) .nil .nil))))) (nd n 26 (o26 P) (nd n 42 (o42 P) (nd n 74 (o74 P) (nd n 138 (o138 P) (nd n 266 (o266 P) .nil .nil) (nd n 394 (o394 P) .nil .nil)) (nd n 202 (o202 P) (nd n 330 (o330 P) .nil .nil) (nd n 458 (o458 P) .nil .nil))) (nd n 106 (o106 P) (nd n 170 (o170 P) (nd n 298 (o298 P) .nil .nil) (nd n 426 (o426 P) .nil .nil)) (nd n 234 (o234 P) (nd n 362 (o362 P) .nil .nil) (nd n 490 (o490 P) .nil .nil)))) (nd n 58 (o58 P) (nd n 90 (o90 P) (nd n 154 (o154 P) (nd n 282 (o282 P) .nil .nil) (nd n 410 (o410 P) .nil .nil)) (nd n 218 (o218 P) (nd n 346 (o346 P) .nil .nil) (nd n 474 (o474 P) .nil .nil))) (nd n 122 (o122 P) (nd n 186 (o186 P) (nd n 314 (o314 P) .nil .nil) (nd n 442 (o442 P) .nil .nil)) (nd n 250 (o250 P) (nd n 378 (o378 P) .nil .nil) (nd n 506 (o506 P) .nil .nil)))))) (nd n 14 (o14 P) (nd n 22 (o22 P) (nd n 38 (o38 P) (nd n 70 (o70 P) (nd n 134 (o134 P) (nd n 262 (o262 P) .nil .nil) (nd n 390 (o390 P) .nil .nil)) (nd n 198 (o198 P) (nd n 326 (o326 P) .nil .nil) (nd n 454 (o454 P) .nil .nil))) (nd n 102 (o102 P) (nd n 166 (o166 P) (nd n 294 (o294 P) .nil .nil) (nd n 422 (o422 P) .nil .nil)) (nd n 230 (o230 P) (nd n 358 (o358 P) .nil .nil) (nd n 486 (o486 P) .nil .nil)))) (nd n 54 (o54 P) (nd n 86 (o86 P) (nd n 150 (o150 P) (nd n 278 (o278 P) .nil .nil) (nd n 406 (o406 P) .nil .nil)) (nd n 214 (o214 P) (nd n 342 (o342 P) .nil .nil) (nd n 470 (o470 P) .nil .nil))) (nd n 118 (o118 P) (nd n 182 (o182 P) (nd n 310 (o310 P) .nil .nil) (nd n 438 (o438 P) .nil .nil)) (nd n 246 (o246 P) (nd n 374 (o374 P) .nil .nil) (nd n 502 (o502 P) .nil .nil))))) (nd n 30 (o30 P) (nd n 46 (o46 P) (nd n 78 (o78 P) (nd n 142 (o142 P) (nd n 270 (o270 P) .nil .nil) (nd n 398 (o398 P) .nil .nil)) (nd n 206 (o206 P) (nd n 334 (o334 P) .nil .nil) (nd n 462 (o462 P) .nil .nil))) (nd n 110 (o110 P) (nd n 174 (o174 P) (nd n 302 (o302 P) .nil .nil) (nd n 430 (o430 P) .nil .nil)) (nd n 238 (o238 P) (nd n 366 (o366 P) .nil .nil) (nd n 494 (o494 P) .nil .nil)))) (nd n 62 (o62 P) (nd n 94 (o94 P) (nd n 158 (o158 P) (nd n 286 (o286 P) .nil .nil) (nd n 414 (o414 P) .nil .nil)) (nd n 222 (o222 P) (nd n 350 (o350 P) .nil .nil) (nd n 478 (o478 P) .nil .nil))) (nd n 126 (o126 P) (nd n 190 (o190 P) (nd n 318 (o318 P) .nil .nil) (nd n 446 (o446 P) .nil .nil)) (nd n 254 (o254 P) (nd n 382 (o382 P) .nil .nil) (nd n 510 (o510 P) .nil .nil)))))))))

noncomputable def envT : Env := { scope := pw.main.scope, locals := mainNs, globals := mainNs, cells := [], code := .ref 13, frame := some 14 }
noncomputable def bd : List Stmt := behindTheImports pw
noncomputable def sl (i n : Nat) : List Stmt := (bd.drop i).take n
noncomputable def cE : Code := .body bd envT
noncomputable def x2 : Obj := ⟨.none, none, .dict (List.toArray []) 0, List.toArray []⟩
noncomputable def S (n : Nat) (y2 : Obj) (v : Value) (m3 m12 tk : Nat) (P : Params) (os : OsState) : SharedT := ⟨T n y2 (x3 m3 v P) (x12 m12) P, n, {}, Array.mk [], {}, tk, os⟩
noncomputable abbrev fr0 : List Frame := [topFrame ⟨0, 0, 0, 0⟩]

theorem pc0 (w : World) : (fun os : OsState => PySem.W.Fast.tw10110043849684766642 PySem.W.Fast.tw14364793385576792824 pw w 11 (some (.ref 6)) 1 484 (S 15 x2 (sv "__main__" 164) 9 0 187 w.params os) (piecesOf (sl 0 4) envT cE ⟨0, 0, 0, 0⟩ fr0)) = fun os => some (Flow.next, S 55 (o2 w.params) (sv "lendcore.errors" 194) 12 9 244 w.params os, cE, ⟨11, 0, 12, 8⟩) := by kernel_rfl
theorem pc1_false (w : World) : (fun os : OsState => PySem.W.Fast.tw10110043849684766642 PySem.W.Fast.tw14364793385576792824 pw (World.withFollow w "special-get-raises" false) 11 (some (.ref 6)) 1 155 (S 55 (o2 w.params) (sv "lendcore.errors" 194) 12 9 244 w.params os) (piecesOf (sl 4 2) envT cE ⟨11, 0, 12, 8⟩ fr0)) = fun os => some (Flow.next, S 56 (o2 w.params) (sv "lendcore.integers" 244) 13 9 274 w.params os, cE, ⟨14, 0, 14, 4⟩) := by kernel_rfl
theorem pc1_true (w : World) : (fun os : OsState => PySem.W.Fast.tw10110043849684766642 PySem.W.Fast.tw14364793385576792824 pw (World.withFollow w "special-get-raises" true) 11 (some (.ref 6)) 1 155 (S 55 (o2 w.params) (sv "lendcore.errors" 194) 12 9 244 w.params os) (piecesOf (sl 4 2) envT cE ⟨11, 0, 12, 8⟩ fr0)) = fun os => some (Flow.next, S 56 (o2 w.params) (sv "lendcore.integers" 244) 13 9 274 w.params os, cE, ⟨14, 0, 14, 4⟩) := by kernel_rfl
theorem pc2 (w : World) : (fun os : OsState => PySem.W.Fast.tw10110043849684766642 PySem.W.Fast.tw14364793385576792824 pw w 11 (some (.ref 6)) 1 348 (S 56 (o2 w.params) (sv "lendcore.integers" 244) 13 9 274 w.params os) (piecesOf (sl 6 12) envT cE ⟨14, 0, 14, 4⟩ fr0)) = fun os => some (Flow.next, S 133 (o2 w.params) (sv "lendcore.mir" 370) 24 42 372 w.params os, cE, ⟨76, 0, 76, 8⟩) := by kernel_rfl
theorem pc3 (w : World) : (fun os : OsState => PySem.W.Fast.tw10110043849684766642 PySem.W.Fast.tw14364793385576792824 pw w 11 (some (.ref 6)) 1 426 (S 133 (o2 w.params) (sv "lendcore.mir" 370) 24 42 372 w.params os) (piecesOf (sl 18 1) envT cE ⟨76, 0, 76, 8⟩ fr0)) = fun os => some (Flow.next, S 198 (o2 w.params) (sv "lendcore.mir" 370) 25 45 458 w.params os, cE, ⟨77, 0, 102, 16⟩) := by kernel_rfl
theorem pc4 (w : World) : (fun os : OsState => PySem.W.Fast.tw10110043849684766642 PySem.W.Fast.tw14364793385576792824 pw w 11 (some (.ref 6)) 1 210 (S 198 (o2 w.params) (sv "lendcore.mir" 370) 25 45 458 w.params os) (piecesOf (sl 19 9) envT cE ⟨77, 0, 102, 16⟩ fr0)) = fun os => some (Flow.next, S 236 (o2 w.params) (sv "lendcore.constants" 487) 33 63 516 w.params os, cE, ⟨158, 0, 164, 16⟩) := by kernel_rfl
theorem pc5 (w : World) : (fun os : OsState => PySem.W.Fast.tw10110043849684766642 PySem.W.Fast.tw14364793385576792824 pw w 11 (some (.ref 6)) 1 353 (S 236 (o2 w.params) (sv "lendcore.constants" 487) 33 63 516 w.params os) (piecesOf (sl 28 2) envT cE ⟨158, 0, 164, 16⟩ fr0)) = fun os => some (Flow.next, S 285 (o2 w.params) (sv "lendcore.constants" 487) 35 69 581 w.params os, cE, ⟨185, 0, 190, 37⟩) := by kernel_rfl
theorem pc6 (w : World) : (fun os : OsState => PySem.W.Fast.tw10110043849684766642 PySem.W.Fast.tw14364793385576792824 pw w 11 (some (.ref 6)) 1 724 (S 285 (o2 w.params) (sv "lendcore.constants" 487) 35 69 581 w.params os) (piecesOf (sl 30 1) envT cE ⟨185, 0, 190, 37⟩ fr0)) = fun os => some (Flow.next, S 401 (o2 w.params) (sv "lendcore.constants" 487) 36 72 761 w.params os, cE, ⟨191, 0, 339, 25⟩) := by kernel_rfl
theorem pc7 (w : World) : (fun os : OsState => PySem.W.Fast.tw10110043849684766642 PySem.W.Fast.tw14364793385576792824 pw w 11 (some (.ref 6)) 1 283 (S 401 (o2 w.params) (sv "lendcore.constants" 487) 36 72 761 w.params os) (piecesOf (sl 31 10) envT cE ⟨191, 0, 339, 25⟩ fr0)) = fun os => some (Flow.next, S 462 (o2 w.params) (sv "law_up0060_01" 776) 45 99 840 w.params os, cE, ⟨380, 0, 392, 100⟩) := by kernel_rfl
theorem pc8 (w : World) : (fun os : OsState => PySem.W.Fast.tw10110043849684766642 PySem.W.Fast.tw14364793385576792824 pw w 11 (some (.ref 6)) 1 252 (S 462 (o2 w.params) (sv "law_up0060_01" 776) 45 99 840 w.params os) (piecesOf (sl 41 9) envT cE ⟨380, 0, 392, 100⟩ fr0)) = fun os => some (Flow.next, S 513 (o2 w.params) (sv "law_up0060_01" 776) 54 126 905 w.params os, cE, ⟨453, 0, 465, 42⟩) := by kernel_rfl

theorem lift {w : World} {n : Nat} {A B : OsState → SharedT} {t : Thread} {p' : Pos} (h : (fun os => PySem.W.Fast.tw10110043849684766642 PySem.W.Fast.tw14364793385576792824 pw w 11 (some (.ref 6)) 1 n (A os) t) = fun os => some (Flow.next, B os, cE, p')) (os : OsState) :
    segRun treeTable pw w 11 (some (.ref 6)) 1 n (A os).abs t = some (Flow.next, (B os).abs, cE, p') := by
  refine segRun_of ?_
  rw [PySem.W.Fast.te10110043849684766642, PySem.W.Fast.te14364793385576792824]
  exact congrFun h os
theorem piece_step {w : World} {a n m N : Nat} {s s' z : Shared} {p p' : Pos} (h : segRun treeTable pw w 11 (some (.ref 6)) 1 m s (piecesOf (sl a n) envT cE p fr0) = some (Flow.next, s', cE, p'))
    (k : topRun treeTable pw w 11 (some (.ref 6)) N s' (restOf (bd.drop (a + n)) envT cE p' fr0) = some z) : topRun treeTable pw w 11 (some (.ref 6)) (m + N) s (restOf (bd.drop a) envT cE p fr0) = some z := by
  have e : bd.drop a = sl a n ++ bd.drop (a + n) := by unfold sl; rw [← List.drop_drop, List.take_append_drop]
  rw [e]
  exact piece_app h k
theorem pcB (w : World) : (fun os : OsState => PySem.W.Fast.tw10110043849684766642 PySem.W.Fast.tw14364793385576792824 pw w 11 (some (.ref 6)) 1 1 (S 15 x2 (sv "__main__" 164) 9 0 187 w.params os) (blockOf bd envT cE ⟨0, 0, 0, 0⟩ fr0)) = fun os => some (Flow.next, S 15 x2 (sv "__main__" 164) 9 0 187 w.params os, cE, ⟨0, 0, 0, 0⟩) := by kernel_rfl
theorem pcP' (w : World) : (fun os : OsState => PySem.W.Fast.tw15667345088766844465 PySem.W.Fast.tw14364793385576792824 pw w 11 (some (.ref 6)) 12 ⟨boot_heap w.params, Array.mk [], boot_drawn, boot_toks, os⟩ (topStub pw)) = fun os => some ((S 15 x2 (sv "__main__" 164) 9 0 187 w.params os).abs, (⟨PySem.W.Fast.tw11892475500146522536 PySem.W.Fast.tw14364793385576792824 (.body bd envT), .body bd envT, ⟨0, 0, 0, 0⟩, fr0⟩ : Thread)) := by kernel_rfl
theorem pcP (w : World) (os : OsState) : topGo treeTable pw w 11 (some (.ref 6)) 12 ⟨boot_heap w.params, Array.mk [], boot_drawn, boot_toks, os⟩ (topStub pw) = some ((S 15 x2 (sv "__main__" 164) 9 0 187 w.params os).abs, (⟨denote treeTable (.body bd envT), .body bd envT, ⟨0, 0, 0, 0⟩, fr0⟩ : Thread)) := by
  rw [PySem.W.Fast.te15667345088766844465, PySem.W.Fast.te14364793385576792824, PySem.W.Fast.te11892475500146522536]
  exact congrFun (pcP' w) os
theorem pcF' (w : World) : (fun os : OsState => PySem.W.Fast.tw14082659384304107361 PySem.W.Fast.tw14364793385576792824 pw w 11 (some (.ref 6)) 2 (S 513 (o2 w.params) (sv "law_up0060_01" 776) 54 126 905 w.params os).abs ⟨doneF Flow.next, cE, ⟨453, 0, 465, 42⟩, fr0⟩) = fun os => some (S 513 (o2 w.params) (sv "law_up0060_01" 776) 54 126 905 w.params os).abs := by kernel_rfl
theorem pcF (w : World) (os : OsState) : topRun treeTable pw w 11 (some (.ref 6)) 2 (S 513 (o2 w.params) (sv "law_up0060_01" 776) 54 126 905 w.params os).abs (restOf (bd.drop 50) envT cE ⟨453, 0, 465, 42⟩ fr0) = some (S 513 (o2 w.params) (sv "law_up0060_01" 776) 54 126 905 w.params os).abs := by
  rw [show bd.drop 50 = [] from by kernel_rfl]
  refine piece_nil ?_
  rw [PySem.W.Fast.te14082659384304107361, PySem.W.Fast.te14364793385576792824]
  exact congrFun (pcF' w) os
theorem pc1 (w : World) : (fun os : OsState => PySem.W.Fast.tw10110043849684766642 PySem.W.Fast.tw14364793385576792824 pw w 11 (some (.ref 6)) 1 155 (S 55 (o2 w.params) (sv "lendcore.errors" 194) 12 9 244 w.params os) (piecesOf (sl 4 2) envT cE ⟨11, 0, 12, 8⟩ fr0)) = fun os => some (Flow.next, S 56 (o2 w.params) (sv "lendcore.integers" 244) 13 9 274 w.params os, cE, ⟨14, 0, 14, 4⟩) :=
  byRow2 "special-get-raises" (P := fun w => (fun os : OsState => PySem.W.Fast.tw10110043849684766642 PySem.W.Fast.tw14364793385576792824 pw w 11 (some (.ref 6)) 1 155 (S 55 (o2 w.params) (sv "lendcore.errors" 194) 12 9 244 w.params os) (piecesOf (sl 4 2) envT cE ⟨11, 0, 12, 8⟩ fr0)) = fun os => some (Flow.next, S 56 (o2 w.params) (sv "lendcore.integers" 244) 13 9 274 w.params os, cE, ⟨14, 0, 14, 4⟩)) pc1_false pc1_true w
theorem runT (w : World) (os : OsState) : topRun treeTable pw w 11 (some (.ref 6)) (12 + (1 + (484 + (155 + (348 + (426 + (210 + (353 + (724 + (283 + (252 + 2))))))))))) ⟨boot_heap w.params, Array.mk [], boot_drawn, boot_toks, os⟩ (topStub pw) = some (S 513 (o2 w.params) (sv "law_up0060_01" 776) 54 126 905 w.params os).abs :=
  go_top (pcP w os) (piece_block (lift (pcB w) os) (piece_step (lift (pc0 w) os) (piece_step (lift (pc1 w) os) (piece_step (lift (pc2 w) os) (piece_step (lift (pc3 w) os) (piece_step (lift (pc4 w) os) (piece_step (lift (pc5 w) os) (piece_step (lift (pc6 w) os) (piece_step (lift (pc7 w) os) (piece_step (lift (pc8 w) os) (pcF w os)))))))))))

theorem size0 (w : World) : ((boot_heap w.params).isNs mainGlobals && (Array.mk [] : Array GenState).size == 0, (boot_heap w.params).objs.size, (boot_heap w.params).nsMap mainGlobals "__annotations__") = (true, 11, some (.ref 6)) := by kernel_rfl
abbrev loose : List Str := [Str.ofString "LendError", Str.ofString "BITS"]
noncomputable def HF (P : Params) : Heap := absHeap (T 513 (o2 P) (x3 54 (sv "law_up0060_01" 776) P) (x12 126) P) 513 {}
theorem lookA (w : World) : (fun os : OsState => (staticsOk (PySem.W.Fast.tw5923862056798008813 pw.main.body) (boot_heap w.params) (HF w.params))) = fun _ => true := by kernel_rfl
theorem lookB (w : World) : (fun os : OsState => (namesBound pw (HF w.params))) = fun _ => true := by kernel_rfl
theorem lookC (w : World) : (fun os : OsState => (gensDone ⟨HF w.params, Array.mk [], {}, 905, os⟩ && laidKept (boot_heap w.params) (HF w.params))) = fun _ => true := by kernel_rfl
theorem lookK (w : World) : hd.as.map (HF w.params).get? = (hd.heap_39 w.params).map (fun p => some p.2) := by kernel_rfl

noncomputable abbrev SF (w : World) (os : OsState) : Shared := ⟨HF w.params, Array.mk [], {}, 905, os⟩
theorem see1 (w : World) : (fun os : OsState => PySem.W.Fast.tw5160383126252970620 ((PySem.W.Fast.tw3399658132070893891 hd.view_39).map (·.name)) (PySem.W.Fast.tw5991557255702980513 hd.view_39) [] { SF w os with gens := #[] }) = fun _ => expectedOf hd.view_39 := by kernel_rfl
theorem see2 (w : World) : (HF w.params).bltView = bltViewBooted := by kernel_rfl
theorem see3 (w : World) : PySem.W.Fast.tw10880121769531294198 (HF w.params) (PySem.W.Fast.tw821141287760084731 hd.view_39 loose) ((PySem.W.Fast.tw3399658132070893891 hd.view_39).map (·.name)) ((PySem.W.Fast.tw7409074990110511671 hd.view_39).map (·.1)) ((PySem.W.Fast.tw13664370479719496447 hd.view_39 (PySem.W.Fast.tw821141287760084731 hd.view_39 loose)).map (·.name)) = true := by kernel_rfl
theorem see4 (w : World) : PySem.W.Fast.tw14722251495701143533 (HF w.params) (PySem.W.Fast.tw5923862056798008813 pw.main.body) = true := by kernel_rfl
theorem see5 (w : World) : ((HF w.params).isNs mainGlobals && (HF w.params).isNs builtinsNs) = true := by kernel_rfl
theorem see6 (w : World) : (fun os : OsState => PySem.W.Fast.tw10994771534591457954 hd.view_39 (SF w os).heap) = fun _ => true := by kernel_rfl
theorem see7 (w : World) : (fun os : OsState => xlAt hd.view_39 [] (SF w os) && recOk (RowW.records PySem.Challenge.rw_up0060_01.row.toRowW) (SF w os)) = fun _ => true := by kernel_rfl
theorem see8 (w : World) : (fun os : OsState => PySem.W.Fast.tw479339242167458305 hd.view_39 (SF w os)) = fun _ => true := by kernel_rfl
theorem see9 (w : World) : (fun os : OsState => PySem.W.Fast.tw16090120013241838585 hd.view_39 (PySem.W.Fast.tw3247288618530077131 hd.view_39) (SF w os)) = fun _ => pinGoodD (PySem.W.Fast.tw3247288618530077131 hd.view_39) := by kernel_rfl
theorem see10 (w : World) : (fun os : OsState => PySem.W.Fast.tw2386780881361962483 hd.view_39 (PySem.W.Fast.tw821141287760084731 hd.view_39 loose) (SF w os)) = fun _ => plainGoodE hd.view_39 (PySem.W.Fast.tw821141287760084731 hd.view_39 loose) := by kernel_rfl
theorem see11 (w : World) : (fun os : OsState => PySem.W.Fast.tw11698064438423848299 hd.view_39 loose (SF w os)) = fun _ => plainGoodD hd.view_39 loose := by kernel_rfl
theorem see12 (w : World) : (fun os : OsState => PySem.W.Fast.tw7317090234206586261 hd.view_39 (SF w os)) = fun _ => wideGood hd.view_39 := by kernel_rfl
theorem see13 (w : World) : (fun os : OsState => PySem.W.Fast.tw7369524293546568484 hd.view_39 loose (SF w os)) = fun _ => clsGoodW hd.view_39 loose := by kernel_rfl

noncomputable abbrev Xt : Shared → Bool := fun s => xlAt hd.view_39 [] s && recOk (RowW.records PySem.Challenge.rw_up0060_01.row.toRowW) s
theorem tup9 {A B C D E F G H I : Type} {a a' : A} {b b' : B} {c c' : C} {d d' : D} {e e' : E} {f f' : F} {g g' : G} {h h' : H} {i i' : I} (h1 : a = a') (h2 : b = b') (h3 : c = c') (h4 : d = d') (h5 : e = e') (h6 : f = f') (h7 : g = g') (h8 : h = h') (h9 : i = i') :
    (a, b, c, d, e, f, g, h, i) = (a', b', c', d', e', f', g', h', i') := by rw [h1, h2, h3, h4, h5, h6, h7, h8, h9]
theorem tup3 {A B C : Type} {a a' : A} {b b' : B} {c c' : C} (h1 : a = a') (h2 : b = b') (h3 : c = c') : (a, b, c) = (a', b', c') := by rw [h1, h2, h3]
theorem seenAll (w : World) (os : OsState) : openSeen hd.view_39 loose (importedModules pw.main.body) Xt true (SF w os) = openGood hd.view_39 loose := by
  have e1 := congrFun (see1 w) os
  have e6 := congrFun (see6 w) os
  have e7 := congrFun (see7 w) os
  have e8 := congrFun (see8 w) os
  have e9 := congrFun (see9 w) os
  have e10 := congrFun (see10 w) os
  have e11 := congrFun (see11 w) os
  have e12 := congrFun (see12 w) os
  have e13 := congrFun (see13 w) os
  unfold openSeen openGood
  rw [PySem.W.Fast.te5160383126252970620, PySem.W.Fast.te3399658132070893891, PySem.W.Fast.te5991557255702980513, PySem.W.Fast.te10880121769531294198, PySem.W.Fast.te821141287760084731, PySem.W.Fast.te7409074990110511671, PySem.W.Fast.te13664370479719496447, PySem.W.Fast.te14722251495701143533, PySem.W.Fast.te5923862056798008813, PySem.W.Fast.te10994771534591457954, PySem.W.Fast.te479339242167458305, PySem.W.Fast.te16090120013241838585, PySem.W.Fast.te3247288618530077131, PySem.W.Fast.te2386780881361962483, PySem.W.Fast.te11698064438423848299, PySem.W.Fast.te7317090234206586261, PySem.W.Fast.te7369524293546568484]
  refine tup9 e1 (see2 w) ?_ e8 e9 e10 e11 e12 e13
  have e5 := Bool.and_eq_true_iff.mp (see5 w)
  exact Bool.and_eq_true_iff.mpr ⟨Bool.and_eq_true_iff.mpr ⟨Bool.and_eq_true_iff.mpr ⟨Bool.and_eq_true_iff.mpr ⟨Bool.and_eq_true_iff.mpr ⟨Bool.and_eq_true_iff.mpr ⟨see3 w, see4 w⟩, e5.1⟩, e5.2⟩, e6⟩, e7⟩, rfl⟩
theorem open0 : ∀ w : World, (fencedOpening treeTable pw w 6578).map (fun s => (s.heap, s.gens, s.drawn, s.toks)) = some (boot_heap w.params, Array.mk [], boot_drawn, boot_toks) :=
  boot_open (by kernel_rfl) (by kernel_rfl) (fun s => by kernel_rfl)
noncomputable abbrev HK : Hook := kHook hd.heap_39 hd.as (fun _ => by kernel_rfl)
theorem left : LeftO pw hd.view_39 loose Xt HK.obs HK.val 6578 :=
  LeftO.of_pieces open0 size0 runT (by kernel_rfl) fun w => funext fun os => by
    refine tup3 ?_ (seenAll w os) (lookK w)
    have a := congrFun (lookA w) os
    rw [← PySem.W.Fast.te5923862056798008813] at a
    have c := Bool.and_eq_true_iff.mp (congrFun (lookC w) os)
    exact Bool.and_eq_true_iff.mpr ⟨Bool.and_eq_true_iff.mpr ⟨Bool.and_eq_true_iff.mpr ⟨a, congrFun (lookB w) os⟩, c.1⟩, c.2⟩
end Mine
end
section
open PySem PySem.Calls PyProof.Rows PySem.W
namespace Mine

structure Px where
  prog : Program
  w : World
  loose : List Str
  mean : ExcName → Option Value
  mg : Str → Option Value
  mb : Str → Option Value
noncomputable def GG (x : Px) : GX := ⟨x.prog, x.w, hd.heap_39 x.w.params, hd.view_39, x.loose, x.mean, x.mg, x.mb⟩

theorem cl_byte (x : Px) {σ : List Cell} : Cl (GG x) 1 435 [] σ fun p σ' => p = .tup [.str "int", .str "u8"] ∧ σ' = σ := by
  refine Cl.def (name := _) [] rfl rfl ?_ ?_ ?_ ?_
  · exact fun s vs _ h => vs0 (P := fun vs => BindsTo s _ ⟨vs, []⟩ (List.zip _ vs)) h (BindsTo.of_eq rfl)
  · simp
  · simp
  · intro F O hs hc
    refine WPS.cons (WPX.ret (WPE.tuple (WPL.cons (WPE.cstr (WPL.cons (WPE.cstr (WPL.nil ?_)))))))
    exact ⟨by decide, rfl, rfl⟩

/-- the source of the draws -/
noncomputable def Src (σ : List Cell) (i : Nat) : Prop := ∃ a b : Int, σ[i]? = some (.list [.int a, .int b]) ∧ 0 ≤ a ∧ 0 ≤ b ∧ b < 2147483647
noncomputable def Keep (S : List Nat) (σ σ' : List Cell) : Prop := ∀ i c, i ∉ S → σ[i]? = some c → σ'[i]? = some c
theorem Keep.refl {S : List Nat} {σ : List Cell} : Keep S σ σ := fun _ _ _ e => e
theorem Keep.trans {S : List Nat} {σ σ' σ'' : List Cell} (a : Keep S σ σ') (b : Keep S σ' σ'') : Keep S σ σ'' := fun i c n e => b i c n (a i c n e)
theorem Keep.set {S : List Nat} {σ : List Cell} {i : Nat} {c : Cell} (h : i ∈ S) : Keep S σ (σ.set i c) := fun j d n e => by
  rw [List.getElem?_set_ne (fun q : i = j => n (by rw [← q]; exact h))]; exact e
theorem Keep.app {S : List Nat} {σ : List Cell} {l : List Cell} : Keep S σ (σ ++ l) := fun j d n e => by
  rw [List.getElem?_append_left (List.getElem?_eq_some_iff.mp e).1]; exact e
theorem Keep.up {S T : List Nat} {σ σ' : List Cell} (a : Keep S σ σ') (h : ∀ i ∈ S, i ∈ T) : Keep T σ σ' := fun i c n e => a i c (fun q => n (h i q)) e
theorem getSet {σ : List Cell} {i : Nat} {c d : Cell} (h : σ[i]? = some c) : (σ.set i d)[i]? = some d := by
  rw [List.getElem?_set_self (List.getElem?_eq_some_iff.mp h).1]

theorem cl_take (x : Px) {σ : List Cell} {i : Nat} {top : Int} (hs : Src σ i) (h0 : 0 < top) (h1 : top ≤ 1000) : Cl (GG x) 1 421 [.ref i, .int top] σ fun p σ' => ∃ d : Int, p = .int d ∧ 0 ≤ d ∧ d < top ∧ Src σ' i ∧ Keep [i] σ σ' := by
  obtain ⟨a, b, hi, ha, hb, hb'⟩ := hs
  refine Cl.def (name := _) ["source", "top"] rfl rfl ?_ ?_ ?_ ?_
  · exact fun s vs _ h => vs2 (P := fun vs => BindsTo s _ ⟨vs, []⟩ (List.zip _ vs)) h fun _ _ => BindsTo.of_eq rfl
  · decide
  · decide
  · intro F O hs hc
    refine WPS.cons (WPX.ite (WPB.cmp (WPE.item (WPE.name rfl (WPE.cint (Op2.listAt hi (by decide) rfl ?_ (by decide)))))))
    refine WPE.cint (Op2.gt ⟨_, rfl, ?_⟩)
    constructor
    · intro hc
      have hc : 0 < a := by simpa using hc
      refine WPS.cons (WPX.assign O (kof hs rfl) (WPE.bin (WPE.item (WPE.name rfl (WPE.cint (Op2.listAt hi (by decide) rfl ?_ (by decide)))))))
      refine WPE.name rfl (Op2.mod (by omega) ?_)
      refine WPS.cons (WPX.setItem (WPE.bin (WPE.item (WPE.name rfl (WPE.cint (Op2.listAt hi (by decide) rfl ?_ (by decide)))))))
      refine WPE.name rfl (Op2.div (by omega) (by omega) (WPE.name rfl (WPE.cint (OpU.lset hi (by decide) (by simp) (by simp) ?_))))
      refine WPS.cons (WPX.ret (WPE.name rfl ?_))
      refine ⟨_, rfl, Int.fmod_nonneg_of_pos _ h0, Int.fmod_lt_of_pos _ h0, ⟨_, b, getSet hi, ?_, hb, hb'⟩, Keep.set (by simp)⟩
      exact Int.fdiv_nonneg ha (by omega)
    · intro hc
      refine WPS.nil ?_
      have r0 : 0 ≤ (b * 39373 + 7).fmod 2147483647 := Int.fmod_nonneg_of_pos _ (by decide)
      have r1 : (b * 39373 + 7).fmod 2147483647 < 2147483647 := Int.fmod_lt_of_pos _ (by decide)
      refine WPS.cons (WPX.setItem (WPE.bin (WPE.bin (WPE.bin (WPE.item (WPE.name rfl (WPE.cint (Op2.listAt hi (by decide) rfl ?_ (by decide)))))))))
      refine WPE.cint (Op2.mul (IntMulOk.of_right (by decide)) (WPE.cint (Op2.add (WPE.cint (Op2.mod (by decide) (WPE.name rfl (WPE.cint (OpU.lset hi (by decide) (by simp) (by simp) ?_))))))))
      have hi' := getSet (d := .list [.int a, .int ((b * 39373 + 7).fmod 2147483647)]) hi
      generalize (b * 39373 + 7).fmod 2147483647 = c at r0 r1 hi'
      refine WPS.cons (WPX.ret (WPE.bin (WPE.bin (WPE.bin (WPE.bin (WPE.item (WPE.name rfl (WPE.cint (Op2.listAt hi' (by decide) rfl ?_ (by decide))))))))))
      refine WPE.item (WPE.name rfl (WPE.cint (Op2.listAt hi' (by decide) rfl (Op2.mul (IntMulOk.of_right ?_) (WPE.cint (Op2.mod (by decide) (WPE.cint (Op2.div (by decide) (by decide) (WPE.name rfl (Op2.mod (by omega) ?_))))))) (by decide))))
      · exact intBits_le_iff.mpr (show c.natAbs < 2 ^ 64 by omega)
      · exact ⟨_, rfl, Int.fmod_nonneg_of_pos _ h0, Int.fmod_lt_of_pos _ h0, ⟨a, c, hi', ha, r0, r1⟩, Keep.set (by simp)⟩

noncomputable def bytePV : PV := .tup [.str "int", .str "u8"]
inductive Plc | whole (l : Int) | part (k : Int)
noncomputable def Plc.pv : Plc → PV
  | .whole l => .tup [.int l, .tup []]
  | .part k => .tup [.int 4, .tup [.tup [.str "field", .int k]]]
inductive Opd | const (v : Int) | copy (p : Plc)
noncomputable def Opd.pv : Opd → PV
  | .const v => .tup [.str "const", bytePV, .int v]
  | .copy p => .tup [.str "copy", p.pv]
inductive Row
  | use (p : Plc) (o : Opd)
  | two (a b : Opd)
  | print (o : Opd)
  | mark (live : Bool) (l : Int)
  | lend (p : Plc)
noncomputable def Row.pv : Row → PV
  | .use p o => .tup [.str "assign", p.pv, .tup [.str "use", o.pv]]
  | .two a b => .tup [.str "assign", (Plc.whole 4).pv, .tup [.str "tuple", .tup [a.pv, b.pv]]]
  | .print o => .tup [.str "print", o.pv]
  | .mark live l => .tup [.str (if live then "live" else "dead"), .int l]
  | .lend p => .tup [.str "assign", (Plc.whole 5).pv, .tup [.str "ref", .none, .str "shared", p.pv]]
inductive End
  | goto (n : Int)
  | call (o : Opd) (p : Plc) (n : Int)
  | drop (p : Plc) (n : Int)
  | ret
noncomputable def End.pv : End → PV
  | .goto n => .tup [.str "goto", .int n]
  | .call o p n => .tup [.str "call", .tup [.str "fn", .str "f", .tup []], .tup [o.pv], p.pv, .int n]
  | .drop p n => .tup [.str "drop", p.pv, .int n]
  | .ret => .tup [.str "return"]
noncomputable def Plc.part? : Plc → Prop
  | .whole _ => False
  | .part k => k = 0 ∨ k = 1
noncomputable def Opd.ok : Opd → Prop
  | .const _ => True
  | .copy (.whole l) => (1 ≤ l ∧ l ≤ 3) ∨ l = 6
  | .copy (.part k) => k = 0 ∨ k = 1
/-- a place that is lent, called into or dropped -/
noncomputable def Plc.ok : Plc → Prop
  | .whole l => 2 ≤ l ∧ l ≤ 4
  | .part k => k = 0 ∨ k = 1
noncomputable def Row.ok : Row → Prop
  | .use p o => (match p with | .whole l => l = 2 ∨ l = 3 ∨ l = 6 | .part k => k = 0 ∨ k = 1) ∧ o.ok
  | .two a b => a.ok ∧ b.ok
  | .print o => o.ok
  | .mark _ l => (2 ≤ l ∧ l ≤ 4) ∨ l = 6
  | .lend p => (match p with | .whole l => l = 2 ∨ l = 3 | .part k => k = 0 ∨ k = 1)
noncomputable def End.ok (n : Int) : End → Prop
  | .goto k => k = n
  | .call o p k => o.ok ∧ p.ok ∧ k = n
  | .drop p k => p.ok ∧ k = n
  | .ret => True

theorem Src.keep {S : List Nat} {σ σ' : List Cell} {i : Nat} (h : Src σ i) (k : Keep S σ σ') (n : i ∉ S) : Src σ' i := by
  obtain ⟨a, b, e, r⟩ := h; exact ⟨a, b, k i _ n e, r⟩
theorem Src.lt {σ : List Cell} {i : Nat} (h : Src σ i) : i < σ.length := by obtain ⟨a, b, e, _⟩ := h; exact (List.getElem?_eq_some_iff.mp e).1
theorem getNew {σ : List Cell} {c : Cell} : (σ ++ [c])[σ.length]? = some c := by simp

theorem cl_one (x : Px) {σ : List Cell} {i j : Nat} {l : List PV} (hs : Src σ i) (hj : σ[j]? = some (.list l)) (hij : j ≠ i) (h0 : 0 < l.length) (h1 : l.length ≤ 1000) : Cl (GG x) 3 428 [.ref i, .ref j] σ fun p σ' => p ∈ l ∧ Src σ' i ∧ Keep [i] σ σ' := by
  refine Cl.def (name := _) ["source", "things"] rfl rfl ?_ (by decide) (by decide) ?_
  · exact fun s vs _ h => vs2 (P := fun vs => BindsTo s _ ⟨vs, []⟩ (List.zip _ vs)) h fun _ _ => BindsTo.of_eq rfl
  · intro F O hs' hc
    refine WPS.cons (WPX.ret (WPE.item (WPE.name rfl (WPE.call O (fa := 421) (kof hs' rfl) rfl rfl ?_))))
    refine WPL.cons (WPE.name rfl (WPL.cons (WPE.bicall O (kof hs' rfl) rfl rfl (by decide) (WPL.cons (WPE.name rfl (WPL.nil (OpN.lenList hj h1 (WPL.nil ?_))))))))
    refine Cl.op (Cl.mono (cl_take x hs (by omega) (by omega)) ?_) (O.le (by decide))
    rintro p σ' ⟨d, rfl, d0, d1, s', k⟩
    have hj' := k j _ (by simpa using hij) hj
    have hd : d.toNat < l.length := by omega
    exact Op2.listAt hj' d0 (List.getElem?_eq_getElem hd) ⟨List.getElem_mem hd, s', k⟩ (by omega)


theorem cl_part (x : Px) {σ : List Cell} {i : Nat} (hs : Src σ i) : Cl (GG x) 2 447 [.ref i] σ fun p σ' => ∃ k, (k = 0 ∨ k = 1) ∧ p = (Plc.part k).pv ∧ Src σ' i ∧ Keep [i] σ σ' := by
  refine Cl.def (name := _) ["source"] rfl rfl ?_ (by decide) (by decide) ?_
  · exact fun s vs _ h => vs1 (P := fun vs => BindsTo s _ ⟨vs, []⟩ (List.zip _ vs)) h fun _ => BindsTo.of_eq rfl
  · intro F O hs' hc
    refine WPS.ret ?_; refine WPE.tuple ?_; refine WPL.cons ?_; refine WPE.cint ?_; refine WPL.cons ?_; refine WPE.tuple ?_; refine WPL.cons ?_; refine WPE.tuple ?_; refine WPL.cons ?_; refine WPE.cstr ?_; refine WPL.cons ?_; refine WPE.call O (fa := 421) (kof hs' rfl) rfl rfl ?_; refine WPL.args (by rfl) ?_
    refine Cl.op (Cl.mono (cl_take x hs (by omega) (by omega)) ?_) O
    rintro p σ' ⟨d, rfl, d0, d1, s', k⟩
    refine WPL.nil ⟨by simp, WPL.nil ⟨by simp, WPL.nil ⟨by simp, d, by omega, rfl, s', k⟩⟩⟩

theorem cl_operand (x : Px) {σ : List Cell} {i : Nat} (hs : Src σ i) : Cl (GG x) 4 454 [.ref i] σ fun p σ' => ∃ o : Opd, o.ok ∧ p = o.pv ∧ Src σ' i ∧ Keep [i] σ σ' := by
  refine Cl.def (name := _) ["source"] rfl rfl ?_ (by decide) (by decide) ?_
  · exact fun s vs _ h => vs1 (P := fun vs => BindsTo s _ ⟨vs, []⟩ (List.zip _ vs)) h fun _ => BindsTo.of_eq rfl
  · intro F O hs' hc
    refine WPS.assign O (kof hs' rfl) ?_; refine WPE.call O (fa := 421) (kof hs' rfl) rfl rfl ?_; refine WPL.args (by rfl) ?_
    refine Cl.u1prrrr (cl_take x hs (by omega) (by omega)) O ?_
    rintro d σ₁ d0 d1 s₁ k₁
    refine WPS.ite ?_; refine WPB.cmp ?_; refine WPE.name rfl ?_; refine WPE.cint ?_
    refine Op2.lt ⟨_, rfl, ?_⟩
    constructor
    · intro hd
      refine WPS.ret ?_; refine WPE.tuple ?_; refine WPL.cons ?_; refine WPE.cstr ?_; refine WPL.cons ?_; refine WPE.call0 O (fa := 435) (kof hs' rfl) rfl rfl ?_
      refine Cl.op (Cl.mono (cl_byte x) ?_) (O.le (by decide))
      rintro p σ₂ ⟨rfl, rfl⟩
      refine WPL.cons ?_; refine WPE.call O (fa := 428) (kof hs' rfl) rfl rfl ?_; refine WPL.consN (by rfl) ?_; refine WPL.cons ?_; refine WPE.list ?_; refine WPL.args (by rfl) ?_
      refine ⟨by simp, WPL.nil ?_⟩
      have hne : σ₂.length ≠ i := Nat.ne_of_gt s₁.lt
      refine Cl.op (Cl.mono (cl_one x (s₁.keep Keep.app (S := []) (by simp)) getNew hne (by simp) (by simp)) ?_) (O.le (by decide))
      rintro p σ₃ ⟨hp, s₃, k₃⟩
      refine WPL.nil ⟨by simp, ?_⟩
      have : ∃ v : Int, p = .int v := by
        simp only [List.mem_cons, List.not_mem_nil, or_false] at hp
        rcases hp with rfl | rfl | rfl <;> exact ⟨_, rfl⟩
      obtain ⟨v, rfl⟩ := this
      exact ⟨.const v, trivial, rfl, s₃, k₁.trans (Keep.app.trans k₃)⟩
    · intro hd
      have hd : 2 ≤ d := by simpa using hd
      refine WPS.nil ?_
      refine WPS.ret ?_; refine WPE.tuple ?_; refine WPL.cons ?_; refine WPE.cstr ?_; refine WPL.cons ?_; refine WPE.ifexp ?_; refine WPB.cmp ?_; refine WPE.name rfl ?_; refine WPE.cint ?_
      refine Op2.eqI ⟨_, rfl, ?_⟩
      constructor
      · intro h5
        refine WPE.call O (fa := 447) (kof hs' rfl) rfl rfl ?_; refine WPL.args (by rfl) ?_
        refine Cl.u1rprr (cl_part x s₁) O ?_
        rintro k σ₂ hk s₂ k₂
        exact WPL.nil ⟨by simp, .copy (.part k), hk, rfl, s₂, k₁.trans k₂⟩
      · intro h5
        have h5 : d ≠ 5 := by simpa using h5
        refine WPE.tuple ?_; refine WPL.cons ?_; refine WPE.bin ?_; refine WPE.name rfl ?_; refine WPE.cint ?_
        refine Op2.sub ?_
        refine WPL.cons ?_; refine WPE.tuple ?_; refine WPL.nil ?_
        refine ⟨by simp, WPL.nil ⟨by simp, WPL.nil ⟨by simp, ?_⟩⟩⟩
        exact ⟨.copy (.whole (d - 1)), .inl ⟨by omega, by omega⟩, rfl, s₁, k₁⟩


theorem noFree {names : List (Str × NameKind)} {cells : List (Str × Addr)} (h : (names.all fun x => x.2 != .free) = true) : ∀ x ∈ names, x.2 = .free → (cells.lookup x.1).isSome = true := fun x hx hf => by
  rw [List.all_eq_true] at h
  have := h x hx
  rw [hf] at this
  cases this
noncomputable def pairT : PV := .tup [.str "tuple", .tup [bytePV, bytePV]]
noncomputable def refT : PV := .tup [.str "ref", .none, .bool false, bytePV]
noncomputable def typesPV : List PV := [bytePV, bytePV, bytePV, bytePV, pairT, refT, bytePV].map fun t => .tup [t, .bool true, .none]
theorem cl_types (x : Px) {σ : List Cell} : Cl (GG x) 3 440 [] σ fun p σ' => ∃ j, p = .ref j ∧ σ.length ≤ j ∧ σ'[j]? = some (.list typesPV) ∧ Keep [] σ σ' := by
  refine Cl.def (name := _) [] rfl rfl ?_ (by decide) (by decide) ?_
  · exact fun s vs _ h => vs0 (P := fun vs => BindsTo s _ ⟨vs, []⟩ (List.zip _ vs)) h (BindsTo.of_eq rfl)
  · intro F O hs' hc
    refine WPS.assign O (kof hs' rfl) ?_; refine WPE.call0 O (fa := 435) (kof hs' rfl) rfl rfl ?_
    refine Cl.u0ps (cl_byte x) O ?_
    refine WPS.assign O (kof hs' rfl) ?_; refine WPE.list ?_; refine WPL.consN (by rfl) ?_; refine WPL.consN (by rfl) ?_; refine WPL.consN (by rfl) ?_; refine WPL.consN (by rfl) ?_; refine WPL.cons ?_; refine WPE.tuple ?_; refine WPL.cons ?_; refine WPE.cstr ?_; refine WPL.cons ?_; refine WPE.tuple ?_; refine WPL.args (by rfl) ?_
    refine ⟨by simp, WPL.nil ⟨by simp, ?_⟩⟩
    refine WPL.cons ?_; refine WPE.tuple ?_; refine WPL.cons ?_; refine WPE.cstr ?_; refine WPL.cons ?_; refine WPE.cnone ?_; refine WPL.cons ?_; refine WPE.cbool ?_; refine WPL.args (by rfl) ?_
    refine ⟨by simp, ?_⟩
    refine WPL.args (by rfl) ?_
    refine ⟨by simp, ?_⟩
    refine WPS.ret ?_
    refine WPE.compPure O [] (fun t => .tup [t, .bool true, .none]) ?_ (by rfl) (by rfl) (fun x p e => by cases e) (noFree rfl)
    refine WPI.list O ?_
    refine WPE.name rfl ?_
    refine ⟨_, _, rfl, getNew', ⟨by simp, fun l => get_app getNew', fun cenv ce p hp l => ?_⟩, ?_⟩
    · refine WPE.tuple ?_; refine WPL.consN (by rfl) ?_; refine WPL.cons ?_; refine WPE.cbool ?_; refine WPL.cons ?_; refine WPE.cnone ?_; refine WPL.nil ?_
      exact ⟨by simp, rfl, rfl⟩
    · exact ⟨_, rfl, by simp, getNew', fun i c n e => get_app (get_app e)⟩

theorem cl_row (x : Px) {σ : List Cell} {i : Nat} (hs : Src σ i) : Cl (GG x) 6 461 [.ref i] σ fun p σ' => ∃ r : Row, r.ok ∧ p = r.pv ∧ Src σ' i ∧ Keep [i] σ σ' := by
  refine Cl.def (name := _) ["source"] rfl rfl ?_ (by decide) (by decide) ?_
  · exact fun s vs _ h => vs1 (P := fun vs => BindsTo s _ ⟨vs, []⟩ (List.zip _ vs)) h fun _ => BindsTo.of_eq rfl
  · intro F O hs' hc
    refine WPS.cons ?_
    refine WPX.swap O ["way", "byte"] ?_ (by unfold swappedStores Env.blockKind Env.kindOf; rw [hs']; rfl) (by intro x hx; simp at hx; rcases hx with rfl | rfl <;> exact kof hs' rfl)
    refine WPE.tuple ?_; refine WPL.cons ?_; refine WPE.call O (fa := 421) (kof hs' rfl) rfl rfl ?_; refine WPL.args (by rfl) ?_
    refine Cl.u1prrrr (cl_take x hs (by omega) (by omega)) O ?_
    rintro w σ₁ w0 w1 s₁ k₁
    refine WPL.cons ?_; refine WPE.tuple ?_; refine WPL.cons ?_; refine WPE.bin ?_; refine WPE.cint ?_; refine WPE.call O (fa := 421) (kof hs' rfl) rfl rfl ?_; refine WPL.args (by rfl) ?_
    refine Cl.u1prrrr (cl_take x s₁ (by omega) (by omega)) O ?_
    rintro b σ₂ b0 b1 s₂ k₂
    have k₂ := k₁.trans k₂
    clear k₁ s₁
    refine Op2.add ?_
    refine WPL.cons ?_; refine WPE.tuple ?_; refine WPL.nil ?_
    refine ⟨by simp, WPL.nil ⟨by simp, WPL.nil ⟨by simp, _, rfl, rfl, ?_⟩⟩⟩
    refine WPS.ite ?_; refine WPB.cmp ?_; refine WPE.name rfl ?_; refine WPE.cint ?_
    refine Op2.lt ⟨_, rfl, fun h3 => ?_, fun h3 => ?_⟩
    · refine WPS.ret ?_; refine WPE.tuple ?_; refine WPL.cons ?_; refine WPE.cstr ?_; refine WPL.consN (by rfl) ?_; refine WPL.cons ?_; refine WPE.tuple ?_; refine WPL.cons ?_; refine WPE.cstr ?_; refine WPL.cons ?_; refine WPE.call O (fa := 454) (kof hs' rfl) rfl rfl ?_; refine WPL.args (by rfl) ?_
      refine Cl.u1rprr (cl_operand x s₂) O ?_
      rintro o σ₃ ho s₃ k₃
      refine WPL.nil ⟨by simp, WPL.nil ⟨by simp, ?_⟩⟩
      exact ⟨.use (.whole (2 + b)) o, ⟨by show 2 + b = 2 ∨ 2 + b = 3 ∨ 2 + b = 6; omega, ho⟩, rfl, s₃, k₂.trans k₃⟩
    have h3 : 3 ≤ w := by simpa using h3
    refine WPS.nil ?_; refine WPS.ite ?_; refine WPB.cmp ?_; refine WPE.name rfl ?_; refine WPE.cint ?_
    refine Op2.eqI ⟨_, rfl, fun h4 => ?_, fun h4 => ?_⟩
    · refine WPS.ret ?_; refine WPE.tuple ?_; refine WPL.cons ?_; refine WPE.cstr ?_; refine WPL.cons ?_; refine WPE.tuple ?_; refine WPL.cons ?_; refine WPE.cint ?_; refine WPL.cons ?_; refine WPE.tuple ?_; refine WPL.nil ?_
      refine ⟨by simp, WPL.nil ⟨by simp, ?_⟩⟩
      refine WPL.cons ?_; refine WPE.tuple ?_; refine WPL.cons ?_; refine WPE.cstr ?_; refine WPL.cons ?_; refine WPE.tuple ?_; refine WPL.cons ?_; refine WPE.call O (fa := 454) (kof hs' rfl) rfl rfl ?_; refine WPL.args (by rfl) ?_
      refine Cl.u1rprr (cl_operand x s₂) O ?_
      rintro o σ₃ ho s₃ k₃
      refine WPL.cons ?_; refine WPE.call O (fa := 454) (kof hs' rfl) rfl rfl ?_; refine WPL.args (by rfl) ?_
      refine Cl.u1rprr (cl_operand x s₃) O ?_
      rintro o' σ₄ ho' s₄ k₄
      refine WPL.nil ⟨by simp, WPL.nil ⟨by simp, WPL.nil ⟨by simp, ?_⟩⟩⟩
      exact ⟨.two o o', ⟨ho, ho'⟩, rfl, s₄, (k₂.trans k₃).trans k₄⟩
    have h4 : w ≠ 3 := by simpa using h4
    refine WPS.nil ?_; refine WPS.ite ?_; refine WPB.cmp ?_; refine WPE.name rfl ?_; refine WPE.cint ?_
    refine Op2.eqI ⟨_, rfl, fun h5 => ?_, fun h5 => ?_⟩
    · refine WPS.ret ?_; refine WPE.tuple ?_; refine WPL.cons ?_; refine WPE.cstr ?_; refine WPL.cons ?_; refine WPE.call O (fa := 447) (kof hs' rfl) rfl rfl ?_; refine WPL.args (by rfl) ?_
      refine Cl.u1rprr (cl_part x s₂) O ?_
      rintro k σ₃ hk s₃ k₃
      refine WPL.cons ?_; refine WPE.tuple ?_; refine WPL.cons ?_; refine WPE.cstr ?_; refine WPL.cons ?_; refine WPE.call O (fa := 454) (kof hs' rfl) rfl rfl ?_; refine WPL.args (by rfl) ?_
      refine Cl.u1rprr (cl_operand x s₃) O ?_
      rintro o' σ₄ ho' s₄ k₄
      refine WPL.nil ⟨by simp, WPL.nil ⟨by simp, ?_⟩⟩
      exact ⟨.use (.part k) o', ⟨hk, ho'⟩, rfl, s₄, (k₂.trans k₃).trans k₄⟩
    have h5 : w ≠ 4 := by simpa using h5
    refine WPS.nil ?_; refine WPS.ite ?_; refine WPB.cmp ?_; refine WPE.name rfl ?_; refine WPE.cint ?_
    refine Op2.lt ⟨_, rfl, fun h6 => ?_, fun h6 => ?_⟩
    · refine WPS.ret ?_; refine WPE.tuple ?_; refine WPL.cons ?_; refine WPE.cstr ?_; refine WPL.cons ?_; refine WPE.call O (fa := 454) (kof hs' rfl) rfl rfl ?_; refine WPL.args (by rfl) ?_
      refine Cl.u1rprr (cl_operand x s₂) O ?_
      rintro o σ₃ ho s₃ k₃
      refine WPL.nil ⟨by simp, ?_⟩
      exact ⟨.print o, ho, rfl, s₃, k₂.trans k₃⟩
    have h6 : 7 ≤ w := by simpa using h6
    refine WPS.nil ?_; refine WPS.ite ?_; refine WPB.cmp ?_; refine WPE.name rfl ?_; refine WPE.cint ?_
    refine Op2.eqI ⟨_, rfl, fun h7 => ?_, fun h7 => ?_⟩
    · refine WPS.ret ?_; refine WPE.tuple ?_; refine WPL.cons ?_; refine WPE.call O (fa := 428) (kof hs' rfl) rfl rfl ?_; refine WPL.consN (by rfl) ?_; refine WPL.cons ?_; refine WPE.list ?_; refine WPL.args (by rfl) ?_
      refine ⟨by simp, WPL.nil ?_⟩
      have hne : σ₂.length ≠ i := Nat.ne_of_gt s₂.lt
      refine Cl.op (Cl.mono (cl_one x (s₂.keep Keep.app (S := []) (by simp)) getNew hne (by simp) (by simp)) ?_) (O.le (by decide))
      rintro p σ₃ ⟨hp, s₃, k₃⟩
      have : ∃ b : Bool, p = .str (if b then "live" else "dead") := by
        simp only [List.mem_cons, List.not_mem_nil, or_false] at hp
        rcases hp with rfl | rfl
        · exact ⟨true, rfl⟩
        · exact ⟨false, rfl⟩
      obtain ⟨lv, rfl⟩ := this
      refine WPL.cons ?_; refine WPE.bin ?_; refine WPE.cint ?_; refine WPE.call O (fa := 421) (kof hs' rfl) rfl rfl ?_; refine WPL.args (by rfl) ?_
      refine Cl.u1prrrr (cl_take x s₃ (by omega) (by omega)) O ?_
      rintro d σ₄ d0 d1 s₄ k₄
      refine Op2.add (WPL.nil ⟨by simp, ?_⟩)
      exact ⟨.mark lv (2 + d), .inl ⟨by omega, by omega⟩, rfl, s₄, ((k₂.trans Keep.app).trans k₃).trans k₄⟩
    refine WPS.nil ?_; refine WPS.ret ?_; refine WPE.tuple ?_; refine WPL.cons ?_; refine WPE.cstr ?_; refine WPL.cons ?_; refine WPE.tuple ?_; refine WPL.cons ?_; refine WPE.cint ?_; refine WPL.cons ?_; refine WPE.tuple ?_; refine WPL.nil ?_
    refine ⟨by simp, WPL.nil ⟨by simp, ?_⟩⟩
    refine WPL.cons ?_; refine WPE.tuple ?_; refine WPL.cons ?_; refine WPE.cstr ?_; refine WPL.cons ?_; refine WPE.cnone ?_; refine WPL.cons ?_; refine WPE.cstr ?_; refine WPL.cons ?_; refine WPE.call O (fa := 428) (kof hs' rfl) rfl rfl ?_; refine WPL.consN (by rfl) ?_; refine WPL.cons ?_; refine WPE.list ?_; refine WPL.consN (by rfl) ?_; refine WPL.cons ?_; refine WPE.call O (fa := 447) (kof hs' rfl) rfl rfl ?_; refine WPL.args (by rfl) ?_
    refine Cl.u1rprr (cl_part x s₂) O ?_
    rintro k σ₃ hk s₃ k₃
    refine WPL.nil ⟨by simp, WPL.nil ?_⟩
    have hne : σ₃.length ≠ i := Nat.ne_of_gt s₃.lt
    refine Cl.op (Cl.mono (cl_one x (s₃.keep Keep.app (S := []) (by simp)) getNew hne (by simp) (by simp)) ?_) (O.le (by decide))
    rintro p σ₄ ⟨hp, s₄, k₄⟩
    refine WPL.nil ⟨by simp, WPL.nil ⟨by simp, ?_⟩⟩
    simp only [List.mem_cons, List.not_mem_nil, or_false] at hp
    rcases hp with rfl | rfl
    · exact ⟨.lend (.whole (2 + b)), by show 2 + b = 2 ∨ 2 + b = 3; omega, rfl, s₄, ((k₂.trans k₃).trans Keep.app).trans k₄⟩
    · exact ⟨.lend (.part k), hk, rfl, s₄, ((k₂.trans k₃).trans Keep.app).trans k₄⟩

theorem cl_end (x : Px) {σ : List Cell} {i : Nat} {b : Int} (hs : Src σ i) : Cl (GG x) 6 468 [.ref i, .int b] σ fun p σ' => ∃ e : End, e.ok b ∧ e ≠ .ret ∧ p = e.pv ∧ Src σ' i ∧ Keep [i] σ σ' := by
  refine Cl.def (name := _) ["source", "behind"] rfl rfl ?_ (by decide) (by decide) ?_
  · exact fun s vs _ h => vs2 (P := fun vs => BindsTo s _ ⟨vs, []⟩ (List.zip _ vs)) h fun _ _ => BindsTo.of_eq rfl
  · intro F O hs' hc
    refine WPS.cons ?_
    refine WPX.swap O ["way", "place"] ?_ (by unfold swappedStores Env.blockKind Env.kindOf; rw [hs']; rfl) (by intro x hx; simp at hx; rcases hx with rfl | rfl <;> exact kof hs' rfl)
    refine WPE.tuple ?_; refine WPL.cons ?_; refine WPE.call O (fa := 421) (kof hs' rfl) rfl rfl ?_; refine WPL.args (by rfl) ?_
    refine Cl.u1prrrr (cl_take x hs (by omega) (by omega)) O ?_
    rintro w σ₁ w0 w1 s₁ k₁
    refine WPL.cons ?_; refine WPE.call O (fa := 428) (kof hs' rfl) rfl rfl ?_; refine WPL.consN (by rfl) ?_; refine WPL.cons ?_; refine WPE.list ?_; refine WPL.cons ?_; refine WPE.tuple ?_; refine WPL.cons ?_; refine WPE.cint ?_; refine WPL.cons ?_; refine WPE.tuple ?_; refine WPL.nil ?_
    refine ⟨by simp, WPL.nil ⟨by simp, ?_⟩⟩
    refine WPL.cons ?_; refine WPE.tuple ?_; refine WPL.cons ?_; refine WPE.cint ?_; refine WPL.cons ?_; refine WPE.tuple ?_; refine WPL.nil ?_
    refine ⟨by simp, WPL.nil ⟨by simp, ?_⟩⟩
    refine WPL.cons ?_; refine WPE.tuple ?_; refine WPL.cons ?_; refine WPE.cint ?_; refine WPL.cons ?_; refine WPE.tuple ?_; refine WPL.nil ?_
    refine ⟨by simp, WPL.nil ⟨by simp, ?_⟩⟩
    refine WPL.cons ?_; refine WPE.call O (fa := 447) (kof hs' rfl) rfl rfl ?_; refine WPL.args (by rfl) ?_
    refine Cl.u1rprr (cl_part x s₁) O ?_
    rintro k σ₂ hk s₂ k₂
    refine WPL.nil ⟨by simp, WPL.nil ?_⟩
    have hne : σ₂.length ≠ i := Nat.ne_of_gt s₂.lt
    refine Cl.op (Cl.mono (cl_one x (s₂.keep Keep.app (S := []) (by simp)) getNew hne (by simp) (by simp)) ?_) (O.le (by decide))
    rintro p σ₃ ⟨hp, s₃, k₃⟩
    have : ∃ q : Plc, q.ok ∧ p = q.pv := by
      simp only [List.mem_cons, List.not_mem_nil, or_false] at hp
      rcases hp with rfl | rfl | rfl | rfl
      · exact ⟨.whole 2, ⟨by decide, by decide⟩, rfl⟩
      · exact ⟨.whole 3, ⟨by decide, by decide⟩, rfl⟩
      · exact ⟨.whole 4, ⟨by decide, by decide⟩, rfl⟩
      · exact ⟨.part k, hk, rfl⟩
    obtain ⟨q, hq, rfl⟩ := this
    have kk := ((k₁.trans k₂).trans Keep.app).trans k₃
    refine WPL.nil ⟨by simp, _, rfl, rfl, ?_⟩
    refine WPS.ite ?_; refine WPB.cmp ?_; refine WPE.name rfl ?_; refine WPE.cint ?_
    refine Op2.lt ⟨_, rfl, fun h3 => ?_, fun h3 => ?_⟩
    · refine WPS.ret ?_; refine WPE.tuple ?_; refine WPL.args (by rfl) ?_
      exact ⟨by simp, .goto b, rfl, (fun z => by cases z), rfl, s₃, kk⟩
    refine WPS.nil ?_; refine WPS.ret ?_; refine WPE.ifexp ?_; refine WPB.cmp ?_; refine WPE.name rfl ?_; refine WPE.cint ?_
    refine Op2.eqI ⟨_, rfl, fun h4 => ?_, fun h4 => ?_⟩
    · refine WPE.tuple ?_; refine WPL.cons ?_; refine WPE.cstr ?_; refine WPL.cons ?_; refine WPE.tuple ?_; refine WPL.cons ?_; refine WPE.cstr ?_; refine WPL.cons ?_; refine WPE.cstr ?_; refine WPL.cons ?_; refine WPE.tuple ?_; refine WPL.nil ?_
      refine ⟨by simp, WPL.nil ⟨by simp, ?_⟩⟩
      refine WPL.cons ?_; refine WPE.tuple ?_; refine WPL.cons ?_; refine WPE.call O (fa := 454) (kof hs' rfl) rfl rfl ?_; refine WPL.args (by rfl) ?_
      refine Cl.u1rprr (cl_operand x s₃) O ?_
      rintro o σ₄ ho s₄ k₄
      refine WPL.nil ⟨by simp, ?_⟩
      refine WPL.args (by rfl) ?_
      exact ⟨by simp, .call o q b, ⟨ho, hq, rfl⟩, (fun z => by cases z), rfl, s₄, kk.trans k₄⟩
    · refine WPE.tuple ?_; refine WPL.args (by rfl) ?_
      exact ⟨by simp, .drop q b, ⟨hq, rfl⟩, (fun z => by cases z), rfl, s₃, kk⟩

theorem notInter {G : GX} {F : FX} {n : Nat} (O : F.Ok G n) : interactive F.env = false := by unfold interactive; rw [O.ek]; rfl
theorem lookup1 {y x : Str} {q p : PV} (e : List.lookup x [(y, q)] = some p) : x = y ∧ p = q := by
  rw [List.lookup_cons] at e
  by_cases z : x = y
  · subst z; simp at e; exact ⟨rfl, e.symm⟩
  · rw [show (x == y) = false from by simpa using z] at e; cases e
noncomputable abbrev Blk := Nat × List Row × End
noncomputable def Blk.pv (b : Blk) : PV := .tup [.ref b.1, b.2.2.pv]
noncomputable def Blks (σ : List Cell) (j : Nat) (bs : List Blk) : Prop := σ[j]? = some (.list (bs.map Blk.pv)) ∧ ∀ b ∈ bs, σ[b.1]? = some (.list (b.2.1.map Row.pv))
noncomputable def nineR : Row := .use (.whole 6) (.const 9)
noncomputable def toldR : Row := .print (.copy (.whole 6))
noncomputable def deadR : Row := .mark false 6
noncomputable def WellB (bs : List Blk) : Prop := ∃ M : Nat, bs.length = M + 1 ∧ 2 ≤ M ∧ M ≤ 5 ∧ ∀ t b, bs[t]? = some b → (∀ r ∈ b.2.1, r.ok) ∧ b.2.1.length ≤ 6 ∧ (t + 1 < M → b.2.2.ok (t + 1) ∧ b.2.2 ≠ .ret) ∧ (t + 1 = M → b.2.2 = .ret) ∧ (t = M → b.2.2 = .goto 1 ∧ b.2.1 = [nineR, toldR])
theorem Keep.setHi {S : List Nat} {σ σ' : List Cell} {j : Nat} {c : Cell} (k : Keep S σ σ') (h : σ.length ≤ j) : Keep S σ (σ'.set j c) := fun i d n e => by
  have := (List.getElem?_eq_some_iff.mp e).1
  rw [List.getElem?_set_ne (by omega)]
  exact k i d n e
theorem getSetNe {σ : List Cell} {i j : Nat} {c d : Cell} (h : σ[j]? = some c) (n : i ≠ j) : (σ.set i d)[j]? = some c := by rw [List.getElem?_set_ne n]; exact h
theorem Src.set {σ : List Cell} {i j : Nat} {c : Cell} (h : Src σ i) (n : j ≠ i) : Src (σ.set j c) i := by
  obtain ⟨a, b, e, r⟩ := h; exact ⟨a, b, getSetNe e n, r⟩
theorem Keep.len {S : List Nat} {σ σ' : List Cell} (k : Keep S σ σ') {i : Nat} (hi : i ∉ S) (h : i < σ.length) : i < σ'.length := by
  have := k i _ hi (List.getElem?_eq_getElem h)
  exact (List.getElem?_eq_some_iff.mp this).1

/-- the blocks while they are made -/
structure Mk (σ σ' : List Cell) (i j M : Nat) (bs : List Blk) : Prop where
  src : Src σ' i
  keep : Keep [i] σ σ'
  blks : Blks σ' j bs
  sep : ∀ b ∈ bs, b.1 ≠ j ∧ σ.length ≤ b.1
  nd : (bs.map (·.1)).Nodup
  good : ∀ t b, bs[t]? = some b → (∀ r ∈ b.2.1, r.ok) ∧ b.2.1.length ≤ 3 ∧ (t + 1 < M → b.2.2.ok (t + 1) ∧ b.2.2 ≠ .ret) ∧ (t + 1 = M → b.2.2 = .ret)

theorem Mk.push {σ σ' σ₁ : List Cell} {i j M r0 k : Nat} {bs : List Blk} {rs : List Row} {e : End} (K : Mk σ σ' i j M bs) (hk : bs.length = k) (ij : i < σ.length) (hj : σ.length ≤ j) (hr : σ₁[r0]? = some (.list (rs.map Row.pv))) (h0 : σ'.length ≤ r0) (kk : Keep [i] σ' σ₁) (s : Src σ₁ i)
    (ro : ∀ r ∈ rs, r.ok) (rl : rs.length ≤ 3) (e1 : k + 1 < M → e.ok (k + 1) ∧ e ≠ .ret) (e2 : k + 1 = M → e = .ret) : Mk σ (σ₁.set j (.list ((bs ++ [(r0, rs, e)]).map Blk.pv))) i j M (bs ++ [(r0, rs, e)]) := by
  have hjj := (List.getElem?_eq_some_iff.mp K.blks.1).1
  have low : ∀ b ∈ bs, b.1 < σ'.length := fun b hb => (List.getElem?_eq_some_iff.mp (K.blks.2 b hb)).1
  refine ⟨s.set (by omega), Keep.setHi (K.keep.trans kk) hj, ⟨getSet (kk j _ (by simp; omega) K.blks.1), fun b hb => ?_⟩, fun b hb => ?_, ?_, fun t b hb => ?_⟩
  · rcases List.mem_append.mp hb with hb | hb
    · exact getSetNe (kk _ _ (by have := (K.sep b hb).2; simp; omega) (K.blks.2 b hb)) (Ne.symm (K.sep b hb).1)
    · rw [List.mem_singleton.mp hb]; exact getSetNe hr (by show j ≠ r0; omega)
  · rcases List.mem_append.mp hb with hb | hb
    · exact K.sep b hb
    · rw [List.mem_singleton.mp hb]; exact ⟨by show r0 ≠ j; omega, by show σ.length ≤ r0; omega⟩
  · rw [List.map_append, List.nodup_append]
    refine ⟨K.nd, by simp, fun a ha b hb => ?_⟩
    obtain ⟨b', hb', rfl⟩ := List.mem_map.mp ha
    simp only [List.map_cons, List.map_nil, List.mem_singleton] at hb
    have := low b' hb'
    omega
  · by_cases q : t < bs.length
    · rw [List.getElem?_append_left q] at hb; exact K.good t b hb
    · rw [List.getElem?_append_right (by omega)] at hb
      have ht : t - bs.length = 0 := by
        have := (List.getElem?_eq_some_iff.mp hb).1
        simp at this; omega
      rw [ht] at hb
      simp only [List.getElem?_cons_zero, Option.some.injEq] at hb
      subst hb
      have : t = k := by omega
      subst this
      exact ⟨ro, rl, e1, e2⟩

theorem Mk.finish {σ σ₄ : List Cell} {i j M r : Nat} {bl : List Blk} {rs : List Row} {X : Cell} (mk : Mk σ σ₄ i j M (bl ++ [(r, rs, .ret)])) (hl : bl.length + 1 = M) (M0 : 2 ≤ M) (M1 : M ≤ 5) (hi : i < σ.length) (hj : σ.length ≤ j) :
    ∃ bs, Blks ((((σ₄ ++ [X]).set r (Cell.list (rs.map Row.pv ++ [nineR.pv, deadR.pv, toldR.pv]))) ++ [Cell.list [nineR.pv, toldR.pv]]).set j (Cell.list (List.map Blk.pv (bl ++ [(r, rs, End.ret)]) ++ [PV.tup [.ref ((σ₄ ++ [X]).set r (Cell.list (rs.map Row.pv ++ [nineR.pv, deadR.pv, toldR.pv]))).length, .tup [.str "goto", .int 1]]]))) j bs ∧
      WellB bs ∧ (∀ b ∈ bs, σ.length ≤ b.1) ∧ Keep [i] σ ((((σ₄ ++ [X]).set r (Cell.list (rs.map Row.pv ++ [nineR.pv, deadR.pv, toldR.pv]))) ++ [Cell.list [nineR.pv, toldR.pv]]).set j (Cell.list (List.map Blk.pv (bl ++ [(r, rs, End.ret)]) ++ [PV.tup [.ref ((σ₄ ++ [X]).set r (Cell.list (rs.map Row.pv ++ [nineR.pv, deadR.pv, toldR.pv]))).length, .tup [.str "goto", .int 1]]]))) := by
  have hr := mk.blks.2 (r, rs, .ret) (by simp)
  have rj : r ≠ j := (mk.sep (r, rs, .ret) (by simp)).1
  have rσ : σ.length ≤ r := (mk.sep (r, rs, .ret) (by simp)).2
  have nd := mk.nd
  rw [List.map_append, List.nodup_append] at nd
  have hlen : ((σ₄ ++ [X]).set r (.list (rs.map Row.pv ++ [nineR.pv, deadR.pv, toldR.pv]))).length = σ₄.length + 1 := by simp
  have jl : j < σ₄.length := (List.getElem?_eq_some_iff.mp mk.blks.1).1
  rw [hlen]
  refine ⟨bl ++ [(r, rs ++ [nineR, deadR, toldR], .ret), (σ₄.length + 1, [nineR, toldR], .goto 1)], ⟨?_, fun b hb => ?_⟩, ⟨M, by simp; omega, M0, M1, fun t b hb => ?_⟩, fun b hb => ?_, ?_⟩
  · rw [getSet (get_app (getSetNe (get_app mk.blks.1) rj))]
    simp [Blk.pv, End.pv]
  · rcases List.mem_append.mp hb with hb | hb
    · have hs := mk.sep b (List.mem_append_left _ hb)
      have hne : r ≠ b.1 := fun q => nd.2.2 b.1 (List.mem_map.mpr ⟨b, hb, rfl⟩) r (by simp) q.symm
      exact getSetNe (get_app (getSetNe (get_app (mk.blks.2 b (List.mem_append_left _ hb))) hne)) (Ne.symm hs.1)
    · rcases List.mem_cons.mp hb with rfl | hb
      · refine getSetNe (get_app ?_) (Ne.symm rj)
        rw [getSet (get_app hr)]; simp
      · rw [List.mem_singleton.mp hb]
        refine getSetNe ?_ (by show j ≠ σ₄.length + 1; omega)
        show (_ ++ [Cell.list [nineR.pv, toldR.pv]])[σ₄.length + 1]? = _
        rw [← hlen]; exact getNew
  · by_cases q : t < bl.length
    · rw [List.getElem?_append_left q] at hb
      obtain ⟨g1, g2, g3, g4⟩ := mk.good t b (by rw [List.getElem?_append_left q]; exact hb)
      exact ⟨g1, by omega, g3, g4, fun q' => by omega⟩
    · rw [List.getElem?_append_right (by omega)] at hb
      have ht : t - bl.length < 2 := (List.getElem?_eq_some_iff.mp hb).1
      rcases (show t = bl.length ∨ t = bl.length + 1 by omega) with rfl | rfl
      · simp at hb; subst hb
        obtain ⟨g1, g2, g3, g4⟩ := mk.good bl.length (r, rs, .ret) (by simp)
        refine ⟨fun r' hr' => ?_, ?_, fun q' => by omega, fun _ => rfl, fun q' => by omega⟩
        · rcases List.mem_append.mp hr' with hr' | hr'
          · exact g1 r' hr'
          · simp only [List.mem_cons, List.not_mem_nil, or_false] at hr'
            rcases hr' with rfl | rfl | rfl
            · exact ⟨.inr (.inr rfl), trivial⟩
            · exact .inr rfl
            · exact .inr rfl
        · have g2 : rs.length ≤ 3 := g2
          simp; omega
      · rw [show bl.length + 1 - bl.length = 1 by omega] at hb
        simp at hb; subst hb
        refine ⟨fun r' hr' => ?_, by simp, fun q' => by omega, fun q' => by omega, fun _ => ⟨rfl, rfl⟩⟩
        simp only [List.mem_cons, List.not_mem_nil, or_false] at hr'
        rcases hr' with rfl | rfl
        · exact ⟨.inr (.inr rfl), trivial⟩
        · exact .inr rfl
  · rcases List.mem_append.mp hb with hb | hb
    · exact (mk.sep b (List.mem_append_left _ hb)).2
    · rcases List.mem_cons.mp hb with rfl | hb
      · exact rσ
      · rw [List.mem_singleton.mp hb]; show σ.length ≤ σ₄.length + 1; omega
  · exact Keep.setHi ((Keep.setHi (mk.keep.trans Keep.app) rσ).trans Keep.app) hj

theorem cl_blocks (x : Px) {σ : List Cell} {i : Nat} (hs : Src σ i) : Cl (GG x) 8 473 [.ref i] σ fun p σ' => ∃ j bs, p = .ref j ∧ Blks σ' j bs ∧ WellB bs ∧ σ.length ≤ j ∧ (∀ b ∈ bs, σ.length ≤ b.1) ∧ Keep [i] σ σ' := by
  have hi := hs.lt
  refine Cl.defC (name := _) ["source"] rfl rfl ?_ (by decide) (by decide) (by decide) ?_
  · exact fun s vs _ h => vs1 (P := fun vs => BindsTo s _ ⟨vs, []⟩ (List.zip _ vs)) h fun _ => BindsTo.of_eq rfl
  · intro F O hs' hc
    refine WPS.cons ?_
    refine WPX.swap O ["many", "found"] ?_ (by unfold swappedStores Env.blockKind Env.kindOf; rw [hs']; rfl) (by intro x hx; simp at hx; rcases hx with rfl | rfl <;> exact kof hs' rfl)
    refine WPE.tuple ?_; refine WPL.cons ?_
    refine WPE.mono (Q := fun p σ₁ => ∃ M : Nat, p = .int M ∧ 2 ≤ M ∧ M ≤ 5 ∧ Src σ₁ i ∧ Keep [i] σ σ₁) ?_ ?_
    · obtain ⟨a, b, hi', ha, hb, hb'⟩ := id hs
      refine WPE.ifexp ?_; refine WPB.cmp ?_; refine WPE.item ?_; refine WPE.name rfl ?_; refine WPE.cint ?_; refine Op2.listAt hi' (by decide) (by rfl) ?_ (by decide)
      refine WPE.cint ?_
      refine Op2.gt ⟨_, rfl, fun h3 => ?_, fun h3 => ?_⟩
      · refine WPE.bin ?_; refine WPE.cint ?_; refine WPE.call O (fa := 421) (kof hs' rfl) rfl rfl ?_; refine WPL.args (by rfl) ?_
        refine Cl.u1prrrr (cl_take x hs (by omega) (by omega)) O ?_
        rintro w σ₁ w0 w1 s₁ k₁
        refine Op2.add ⟨(3 + w).toNat, ?_, by omega, by omega, s₁, k₁⟩
        rw [show (((3 + w).toNat : Nat) : Int) = 3 + w by omega]
      · refine WPE.cint ?_
        exact ⟨2, rfl, by omega, by omega, hs, Keep.refl⟩
    rintro p σ₁ ⟨M, rfl, M0, M1, s₁, k₁⟩
    refine WPL.cons ?_; refine WPE.list ?_; refine WPL.nil ?_
    refine ⟨by simp, WPL.nil ⟨by simp, _, rfl, rfl, ?_⟩⟩
    have hj : σ.length ≤ σ₁.length := Nat.le_of_not_lt fun q => by
      have := k₁.len (i := σ₁.length) (by have := s₁.lt; simp; omega) q
      omega
    have m₀ : Mk σ (σ₁ ++ [.list []]) i σ₁.length M [] := ⟨s₁.keep Keep.app (S := []) (by simp), k₁.trans Keep.app, ⟨getNew, by simp⟩, by simp, by simp, by simp⟩
    generalize σ₁ ++ [.list []] = σ₂ at m₀
    generalize σ₁.length = j at m₀ hj
    clear k₁ s₁
    refine WPS.cons (WPX.forS O (WPI.range O (kof hs' rfl) rfl (WPE.name rfl ⟨M, rfl, by omega, fun k σ' => ∃ bs, bs.length = k ∧ Mk σ σ' i j M bs, ⟨[], rfl, m₀⟩, fun _ _ _ => trivial, ?_, ?_⟩)))
    · rintro k p σ' e ⟨bs, hbs, mk⟩
      obtain ⟨hk, rfl⟩ := upTo_at e
      refine WPA.name O (kof hs' rfl) ?_
      have hi' := mk.src.lt
      -- rows
      refine WPS.cons (WPX.comp O [("source", .ref i)] (kof hs' rfl) (N := fun ρ' σ₃ => _) ?_ ?_ (freeOk hc rfl))
      · refine WPI.range O (kof hs' rfl) rfl ?_
        refine WPE.bin ?_; refine WPE.cint ?_; refine WPE.call O (fa := 421) (kof hs' rfl) rfl rfl ?_; refine WPL.args (by rfl) ?_
        refine Cl.u1prrrr (cl_take x mk.src (by omega) (by omega)) O ?_
        rintro w σ₃ w0 w1 s₃ k₃
        refine Op2.add ⟨(1 + w).toNat, ?_, by omega, fun k' σ₄ => ∃ rs : List Row, rs.length = k' ∧ σ₄[σ₃.length]? = some (.list (rs.map Row.pv)) ∧ (∀ r ∈ rs, r.ok) ∧ Src σ₄ i ∧ Keep [i] σ' σ₄, ?_, fun _ _ _ => trivial, ?_, ?_⟩
        · rw [show (((1 + w).toNat : Nat) : Int) = 1 + w by omega]
        · exact ⟨[], rfl, getNew, by simp, s₃.keep Keep.app (S := []) (by simp), k₃.trans Keep.app⟩
        · rintro cenv ce k' p σ₄ e' ⟨rs, hrs, hr, ro, s₄, k₄⟩
          obtain ⟨hk', rfl⟩ := upTo_at e'
          refine WPA.cname ce.nL (ce.kind _ _ rfl (by intro z; cases z)) ⟨Sub.cons rfl Sub.refl, fun _ => ?_, fun z => by cases z⟩
          refine WPE.call O (fa := 461) (ce.kind _ _ rfl (by intro z; cases z)) rfl rfl ?_
          refine WPL.args (by rfl) ?_
          refine Cl.u1rprr (cl_row x s₄) O ?_
          rintro r σ₅ hr' s₅ k₅
          have i3 : i < σ₃.length := s₃.lt
          have h5 := k₅ σ₃.length _ (by simp; omega) hr
          refine ⟨_, h5, by rw [List.length_map]; omega, rs ++ [r], by simp [hrs], ?_, ?_, s₅.set (by omega), ?_⟩
          · rw [getSet h5]; simp
          · intro q hq
            rcases List.mem_append.mp hq with hq | hq
            · exact ro q hq
            · rw [List.mem_singleton.mp hq]; exact hr'
          · refine Keep.setHi (k₄.trans k₅) ?_
            refine Nat.le_of_not_lt fun q => ?_
            have := k₃.len (i := σ₃.length) (by simp; omega) q
            omega
        · rintro σ₄ ⟨rs, hrs, hr, ro, s₄, k₄⟩
          have r3 : σ'.length ≤ σ₃.length := Nat.le_of_not_lt fun q => by
            have i3 : i < σ₃.length := s₃.lt
            have := k₃.len (i := σ₃.length) (by simp; omega) q
            omega
          have rl : rs.length ≤ 3 := by
            have h0 : (upTo (1 + w).toNat).length = (1 + w).toNat := by simp [upTo]
            omega
          clear s₃ k₃
          generalize σ₃.length = r0 at hr r3
          have hjj := (List.getElem?_eq_some_iff.mp mk.blks.1).1
          have jn : j ≠ i := by omega
          -- found.append
          refine WPS.cons ?_; refine WPX.expr ?_ (notInter O); refine WPE.bmeth (T := "list") PySem.F.plainAttrs_list PySem.F.slot_list_append PySem.F.type_list_append (.inl rfl) ?_; refine WPE.name rfl ?_
          have hfj : σ₄[j]? = some (.list (bs.map Blk.pv)) := k₄ j _ (by simpa using jn) mk.blks.1
          refine ⟨j, _, rfl, hfj, rfl, ?_⟩
          refine WPL.cons ?_; refine WPE.tuple ?_; refine WPL.consN (by rfl) ?_; refine WPL.cons ?_; refine WPE.ifexp ?_; refine WPB.cmp ?_; refine WPE.bin ?_; refine WPE.name rfl ?_; refine WPE.cint ?_
          refine Op2.add ?_
          refine WPE.name rfl ?_
          refine Op2.lt ⟨_, rfl, fun h3 => ?_, fun h3 => ?_⟩
          · have h3 : (k : Int) + 1 < M := by simpa using h3
            refine WPE.call O (fa := 468) (kof hs' rfl) rfl rfl ?_
            refine WPL.consN (by rfl) ?_; refine WPL.cons ?_; refine WPE.bin ?_; refine WPE.name rfl ?_; refine WPE.cint ?_
            refine Op2.add (WPL.nil ?_)
            refine Cl.u1rrprr (cl_end x s₄) O ?_
            rintro e σ₅ eo en s₅ k₅
            refine WPL.nil ⟨by simp, WPL.nil ?_⟩
            have hfj' : σ₅[j]? = some (.list (bs.map Blk.pv)) := k₅ j _ (by simpa using jn) hfj
            have hr' : σ₅[r0]? = some (.list (rs.map Row.pv)) := k₅ r0 _ (by simp; omega) hr
            refine OpN.append hfj' (by rw [List.length_map]; omega) (WPS.nil ⟨Sub.cons rfl (Sub.cons rfl Sub.refl), bs ++ [(r0, rs, e)], by simp [hbs], ?_⟩)
            have := mk.push hbs hi hj hr' r3 (k₄.trans k₅) s₅ ro rl (e := e) (fun _ => ⟨eo, en⟩) (fun q => absurd h3 (by omega))
            simpa [Blk.pv, End.pv] using this
          · have h3 : ¬ ((k : Int) + 1 < M) := by simpa using h3
            refine WPE.tuple ?_; refine WPL.args (by rfl) ?_
            refine ⟨by simp, WPL.nil ⟨by simp, WPL.nil ?_⟩⟩
            refine OpN.append hfj (by rw [List.length_map]; omega) (WPS.nil ⟨Sub.cons rfl (Sub.cons rfl Sub.refl), bs ++ [(r0, rs, .ret)], by simp [hbs], ?_⟩)
            have := mk.push hbs hi hj hr r3 k₄ s₄ ro rl (e := .ret) (fun q => absurd q (by omega)) (fun _ => rfl)
            simpa [Blk.pv, End.pv] using this
      · intro x p e
        obtain ⟨rfl, rfl⟩ := lookup1 e
        exact ⟨rfl, rfl, by rw [kof (x := "source") (k := .cell) hs' rfl]; intro z; cases z⟩
    · rintro σ₃ ⟨bs, hbs, mk⟩
      have hbs : bs.length = M := by simpa [upTo] using hbs
      refine WPS.cons ?_
      refine WPX.swap O ["nine", "told"] ?_ (by unfold swappedStores Env.blockKind Env.kindOf; rw [hs']; rfl) (by intro x hx; simp at hx; rcases hx with rfl | rfl <;> exact kof hs' rfl)
      refine WPE.tuple ?_; refine WPL.cons ?_; refine WPE.tuple ?_; refine WPL.cons ?_; refine WPE.cstr ?_; refine WPL.cons ?_; refine WPE.tuple ?_; refine WPL.cons ?_; refine WPE.cstr ?_; refine WPL.cons ?_; refine WPE.call0 O (fa := 435) (kof hs' rfl) rfl rfl ?_
      refine Cl.op (Cl.mono (cl_byte x) ?_) (O.le (by decide))
      rintro p σ₄ ⟨rfl, rfl⟩
      refine WPL.args (by rfl) ?_
      refine ⟨by simp, WPL.nil ⟨by simp, ?_⟩⟩
      refine WPL.cons ?_; refine WPE.tuple ?_; refine WPL.cons ?_; refine WPE.cstr ?_; refine WPL.cons ?_; refine WPE.tuple ?_; refine WPL.cons ?_; refine WPE.cstr ?_; refine WPL.cons ?_; refine WPE.tuple ?_; refine WPL.cons ?_; refine WPE.cint ?_; refine WPL.cons ?_; refine WPE.tuple ?_; refine WPL.nil ?_
      refine ⟨by simp, WPL.nil ⟨by simp, WPL.nil ⟨by simp, WPL.nil ⟨by simp, WPL.nil ⟨by simp, _, rfl, rfl, ?_⟩⟩⟩⟩⟩
      rcases List.eq_nil_or_concat bs with rfl | ⟨bl, b, rfl⟩
      · simp at hbs; omega
      obtain ⟨r, rs, e⟩ := b
      rw [List.concat_eq_append] at hbs mk
      have hl : bl.length + 1 = M := by simpa using hbs
      have hlast : (bl ++ [(r, rs, e)])[bl.length]? = some (r, rs, e) := by simp
      obtain ⟨ro, rl, _, ee⟩ := mk.good bl.length _ hlast
      have ee : e = .ret := ee hl
      have rl : rs.length ≤ 3 := rl
      subst ee
      have hjj := (List.getElem?_eq_some_iff.mp mk.blks.1).1
      have hr := mk.blks.2 (r, rs, .ret) (by simp)
      have hrr := (List.getElem?_eq_some_iff.mp hr).1
      have rj : r ≠ j := (mk.sep (r, rs, .ret) (by simp)).1
      have rσ : σ.length ≤ r := (mk.sep (r, rs, .ret) (by simp)).2
      have hm : (List.map Blk.pv (bl ++ [(r, rs, End.ret)])).length = M := by simpa using hl
      refine WPS.cons ?_; refine WPX.expr ?_ (notInter O); refine WPE.bmeth (T := "list") PySem.F.plainAttrs_list PySem.F.slot_list_extend PySem.F.type_list_extend (.inl rfl) ?_; refine WPE.item ?_; refine WPE.item ?_; refine WPE.name rfl ?_; refine WPE.unary ?_; refine WPE.cint ?_
      refine Op1.neg ?_
      refine Op2.listNeg mk.blks.1 (by decide) (by rw [hm]; omega) (p := .tup [.ref r, End.ret.pv]) ?_ ?_
      · rw [hm, show ((-1 + (M : Int)).toNat) = bl.length by omega]
        simp [Blk.pv]
      refine WPE.cint ?_; refine Op2.tupAt (by rfl) (by rfl) ?_
      refine ⟨r, _, rfl, hr, rfl, ?_⟩
      refine WPL.cons ?_; refine WPE.list ?_; refine WPL.cons ?_; refine WPE.tuple ?_; refine WPL.cons ?_; refine WPE.cstr ?_; refine WPL.cons ?_; refine WPE.tuple ?_; refine WPL.cons ?_; refine WPE.cint ?_; refine WPL.cons ?_; refine WPE.tuple ?_; refine WPL.nil ?_
      refine ⟨by simp, WPL.nil ⟨by simp, ?_⟩⟩
      refine WPL.args (by rfl) ?_
      refine ⟨by simp, ?_⟩
      refine WPL.cons ?_; refine WPE.tupArgs (by rfl) ?_
      refine WPL.args (by rfl) ?_
      refine ⟨by simp, WPL.nil ?_⟩
      refine OpN.extend (get_app hr) getNew (by rw [List.length_map]; simp; omega) ?_
      have hj5 : ((σ₄ ++ [Cell.list [nineR.pv, deadR.pv, toldR.pv]]).set r (.list (rs.map Row.pv ++ [nineR.pv, deadR.pv, toldR.pv])))[j]? = some (.list (List.map Blk.pv (bl ++ [(r, rs, End.ret)]))) := getSetNe (get_app mk.blks.1) rj
      refine WPS.cons ?_; refine WPX.expr ?_ (notInter O); refine WPE.bmeth (T := "list") PySem.F.plainAttrs_list PySem.F.slot_list_append PySem.F.type_list_append (.inl rfl) ?_; refine WPE.name rfl ?_
      refine ⟨j, _, rfl, hj5, rfl, ?_⟩
      refine WPL.cons ?_; refine WPE.tuple ?_; refine WPL.cons ?_; refine WPE.list ?_; refine WPL.cons ?_; refine WPE.tuple ?_; refine WPL.cons ?_; refine WPE.cstr ?_; refine WPL.cons ?_; refine WPE.tuple ?_; refine WPL.cons ?_; refine WPE.cint ?_; refine WPL.cons ?_; refine WPE.tuple ?_; refine WPL.nil ?_
      refine ⟨by simp, WPL.nil ⟨by simp, ?_⟩⟩
      refine WPL.args (by rfl) ?_
      refine ⟨by simp, ?_⟩
      refine WPL.args (by rfl) ?_
      refine ⟨by simp, ?_⟩
      refine WPL.cons ?_; refine WPE.tuple ?_; refine WPL.args (by rfl) ?_
      refine ⟨by simp, WPL.nil ⟨by simp, WPL.nil ?_⟩⟩
      refine OpN.append (get_app hj5) (by rw [hm]; omega) ?_
      refine WPS.ret ?_; refine WPE.name rfl ?_
      obtain ⟨bs', h1, h2, h3, h4⟩ := mk.finish (X := Cell.list [nineR.pv, deadR.pv, toldR.pv]) hl M0 M1 hi hj
      exact ⟨j, bs', rfl, h1, h2, hj, h3, h4⟩


noncomputable abbrev Known := List (Int × PV)
theorem nodup_le : ∀ {l S : List Int}, l.Nodup → (∀ x ∈ l, x ∈ S) → l.length ≤ S.length
  | [], _, _, _ => Nat.zero_le _
  | x :: l, S, nd, h => by
    rw [List.nodup_cons] at nd
    have hx := h x (.head _)
    have := nodup_le (S := S.erase x) nd.2 fun y hy => (List.mem_erase_of_ne (fun q : y = x => nd.1 (by rw [← q]; exact hy))).mpr (h y (.tail _ hy))
    rw [List.length_erase_of_mem hx] at this
    have : 0 < S.length := List.length_pos_of_mem hx
    simp; omega
noncomputable def KOk (K : Known) : Prop := (K.map (·.1)).Nodup ∧ ∀ p ∈ K, (p.1 = 4 ∧ ∃ a b : Int, p.2 = .tup [.int a, .int b]) ∨ ((p.1 = 2 ∨ p.1 = 3 ∨ p.1 = 6) ∧ ∃ v : Int, p.2 = .int v)
theorem KOk.len {K : Known} (h : KOk K) : K.length ≤ 4 := by
  have := nodup_le (S := [2, 3, 4, 6]) h.1 fun x hx => by
    obtain ⟨p, hp, rfl⟩ := List.mem_map.mp hx
    rcases h.2 p hp with ⟨e, _⟩ | ⟨e | e | e, _⟩ <;> rw [e] <;> simp
  simpa using this
theorem dget_mem {K : Known} {l : Int} {p : PV} (e : dget K l = some p) : (l, p) ∈ K := by
  unfold dget at e
  obtain ⟨q, hq, rfl⟩ := Option.map_eq_some_iff.mp e
  have h1 := List.find?_some hq
  have h2 := List.mem_of_find?_eq_some hq
  have h3 : q.1 = l := by simpa using h1
  rw [← h3]; exact h2
theorem KOk.nil : KOk [] := ⟨by simp, by simp⟩
theorem KOk.del {K : Known} (h : KOk K) {l : Int} : KOk (ddel K l) := ⟨by
  have : List.Sublist ((ddel K l).map (·.1)) (K.map (·.1)) := (List.filter_sublist).map _
  exact h.1.sublist this, fun p hp => h.2 p (List.mem_filter.mp hp).1⟩
theorem dput_del {K : Known} {l : Int} {p : PV} : dput (ddel K l) l p = ddel K l ++ [(l, p)] := by
  unfold dput
  rw [if_neg]
  intro q
  rw [List.any_eq_true] at q
  obtain ⟨x, hx, e⟩ := q
  have := (List.mem_filter.mp hx).2
  simp at this e
  exact this e
theorem KOk.put {K : Known} (h : KOk K) {l : Int} {p : PV} (hp : (l = 4 ∧ ∃ a b : Int, p = .tup [.int a, .int b]) ∨ ((l = 2 ∨ l = 3 ∨ l = 6) ∧ ∃ v : Int, p = .int v)) : KOk (dput (ddel K l) l p) := by
  rw [dput_del]
  refine ⟨?_, fun q hq => ?_⟩
  · rw [List.map_append, List.nodup_append]
    refine ⟨h.del.1, by simp, fun a ha b hb => ?_⟩
    obtain ⟨x, hx, rfl⟩ := List.mem_map.mp ha
    have := (List.mem_filter.mp hx).2
    simp at this hb
    rw [hb]; exact this
  · rcases List.mem_append.mp hq with hq | hq
    · exact h.del.2 q hq
    · rw [List.mem_singleton.mp hq]; exact hp

noncomputable def worth (K : Known) : Opd → PV
  | .const v => .int v
  | .copy (.whole l) => (dget K l).getD .none
  | .copy (.part k) => match dget K 4 with
    | some (.tup [a, b]) => if k = 0 then a else b
    | _ => .none
theorem worth_ok {K : Known} (h : KOk K) {o : Opd} (ho : o.ok) : worth K o = .none ∨ ∃ v : Int, worth K o = .int v := by
  match o, ho with
  | .const v, _ => exact .inr ⟨v, rfl⟩
  | .copy (.whole l), ho =>
    simp only [worth]
    cases e : dget K l with
    | none => exact .inl rfl
    | some p =>
      rcases h.2 _ (dget_mem e) with ⟨q, _⟩ | ⟨_, v, q⟩
      · exfalso
        have q : l = 4 := q
        have ho : (1 ≤ l ∧ l ≤ 3) ∨ l = 6 := ho
        omega
      · exact .inr ⟨v, q⟩
  | .copy (.part k), ho =>
    simp only [worth]
    cases e : dget K 4 with
    | none => exact .inl rfl
    | some p =>
      rcases h.2 _ (dget_mem e) with ⟨_, a, b, q⟩ | ⟨q, _⟩
      · have q : p = .tup [.int a, .int b] := q
        subst q
        right
        by_cases z : k = 0
        · exact ⟨a, by simp [z]⟩
        · exact ⟨b, by simp [z]⟩
      · exfalso
        have q : (4 : Int) = 2 ∨ (4 : Int) = 3 ∨ (4 : Int) = 6 := q
        omega
theorem KOk.at4 {K : Known} (h : KOk K) {p : PV} (e : dget K 4 = some p) : ∃ a b : Int, p = .tup [.int a, .int b] := by
  rcases h.2 _ (dget_mem e) with ⟨_, a, b, q⟩ | ⟨q, _⟩
  · exact ⟨a, b, q⟩
  · exfalso
    have q : (4 : Int) = 2 ∨ (4 : Int) = 3 ∨ (4 : Int) = 6 := q
    omega
noncomputable def told (K : Known) (o : Opd) : Opd := match worth K o with
  | .int v => .const v
  | _ => o
theorem told_ok {K : Known} {o : Opd} (ho : o.ok) : (told K o).ok := by
  unfold told; split
  · trivial
  · exact ho
noncomputable def made (K : Known) : Row → Row
  | .use p o => .use p (told K o)
  | .two a b => .two (told K a) (told K b)
  | .print o => .print (told K o)
  | r => r
/-- what is known behind a row -/
noncomputable def step (lent : Int → Bool) (K : Known) : Row → Known
  | .use (.whole l) o => match worth K o with
    | .int v => if lent l then ddel K l else dput (ddel K l) l (.int v)
    | _ => ddel K l
  | .use (.part _) _ => ddel K 4
  | .two a b => match worth K a, worth K b with
    | .int v, .int w => if lent 4 then ddel K 4 else dput (ddel K 4) 4 (.tup [.int v, .int w])
    | _, _ => ddel K 4
  | .print _ => K
  | .mark _ l => ddel K l
  | .lend _ => ddel K 5
theorem step_ok {lent : Int → Bool} {K : Known} (h : KOk K) {r : Row} (hr : r.ok) : KOk (step lent K r) := by
  match r, hr with
  | .use (.whole l) o, hr =>
    simp only [step]
    split
    · split
      · exact h.del
      · exact h.put (.inr ⟨hr.1, _, rfl⟩)
    · exact h.del
  | .use (.part _) _, _ => exact h.del
  | .two a b, _ =>
    simp only [step]
    split
    · split
      · exact h.del
      · exact h.put (.inl ⟨rfl, _, _, rfl⟩)
    · exact h.del
  | .print _, _ => exact h
  | .mark _ l, _ => exact h.del
  | .lend _, _ => exact h.del

theorem sh_field (k : Int) : SeqAt.shaped (PV.dat (.tup [.tup [.str "field", .int k]])) = true := by
  simp [SeqAt.shaped, PV.dat, PV.dats, PyData.canLay0, PyData.canLayAll0, PyData.depth, PyData.depthAll]
  decide +kernel
theorem cl_worth (x : Px) {σ : List Cell} {kd : Nat} {K : Known} (hk : σ[kd]? = some (.dict K)) (ok : KOk K) {o : Opd} (ho : o.ok) : Cl (GG x) 2 480 [.ref kd, o.pv] σ fun p σ' => p = worth K o ∧ σ' = σ := by
  refine Cl.def (name := _) ["known", "operand"] rfl rfl ?_ (by decide) (by decide) ?_
  · exact fun s vs _ h => vs2 (P := fun vs => BindsTo s _ ⟨vs, []⟩ (List.zip _ vs)) h fun _ _ => BindsTo.of_eq rfl
  · intro F O hs' hc
    cases o with
    | const v =>
      refine WPS.ifTagT (by rfl) (by rfl) (by rfl) (by rfl) ?_
      refine WPS.ret ?_; refine WPE.nameAt (by rfl) (by rfl) (by rfl) ?_
      exact ⟨rfl, rfl⟩
    | copy q =>
      refine WPS.ifTagF0 (by rfl) (by rfl) (by rfl) (by rfl) ?_
      refine WPS.cons ?_
      cases q with
      | whole l =>
        refine WPX.swap O ["held", "steps"] ?_ (by unfold swappedStores Env.blockKind Env.kindOf; rw [hs']; rfl) (by intro x hx; simp at hx; rcases hx with rfl | rfl <;> exact kof hs' rfl)
        refine WPE.tuple ?_; refine WPL.cons ?_; refine WPE.bmeth (T := "dict") PySem.F.plainAttrs_dict PySem.F.slot_dict_get PySem.F.type_dict_get (.inr rfl) ?_; refine WPE.name rfl ?_
        refine ⟨kd, _, rfl, hk, rfl, ?_⟩
        refine WPL.cons ?_; refine WPE.item ?_; refine WPE.nameAt (by rfl) (by rfl) (by rfl) ?_; refine WPE.cint ?_; refine Op2.tupAt (by rfl) (by rfl) ?_; refine WPL.nil ?_
        refine OpN.dictGet hk ?_
        refine WPL.cons ?_; refine WPE.item ?_; refine WPE.nameAt (by rfl) (by rfl) (by rfl) ?_; refine WPE.cint ?_; refine Op2.tupAt (by rfl) (by rfl) ?_; refine WPL.nil ?_
        refine ⟨by simp, _, rfl, rfl, ?_⟩
        refine WPS.ret ?_; refine WPE.ifexp ?_; refine WPB.bools ?_; refine WPBA.or ?_; refine WPB.cmp ?_; refine WPE.name rfl ?_; refine WPE.cnone ?_
        refine Op2.isNone ⟨_, rfl, fun _ => ?_, fun _ => ?_⟩
        · refine WPBA.or ?_; refine WPB.cmp ?_; refine WPE.name rfl ?_; refine WPE.tuple ?_; refine WPL.nil ?_
          refine ⟨by simp, ?_⟩
          refine Op2.eqD O (.flat _ rfl) (.flat _ rfl) rfl rfl ⟨_, rfl, fun h => (by cases h), fun _ => ⟨fun _ => ?_, fun h => by cases h⟩⟩
          refine WPE.name rfl ?_
          exact ⟨rfl, rfl⟩
        · refine ⟨fun _ => ?_, fun h => by cases h⟩
          refine WPE.name rfl ?_
          exact ⟨rfl, rfl⟩
      | part k =>
        refine WPX.swap O ["held", "steps"] ?_ (by unfold swappedStores Env.blockKind Env.kindOf; rw [hs']; rfl) (by intro x hx; simp at hx; rcases hx with rfl | rfl <;> exact kof hs' rfl)
        refine WPE.tuple ?_; refine WPL.cons ?_; refine WPE.bmeth (T := "dict") PySem.F.plainAttrs_dict PySem.F.slot_dict_get PySem.F.type_dict_get (.inr rfl) ?_; refine WPE.name rfl ?_
        refine ⟨kd, _, rfl, hk, rfl, ?_⟩
        refine WPL.cons ?_; refine WPE.item ?_; refine WPE.nameAt (by rfl) (by rfl) (by rfl) ?_; refine WPE.cint ?_; refine Op2.tupAt (by rfl) (by rfl) ?_; refine WPL.nil ?_
        refine OpN.dictGet hk ?_
        refine WPL.cons ?_; refine WPE.item ?_; refine WPE.nameAt (by rfl) (by rfl) (by rfl) ?_; refine WPE.cint ?_; refine Op2.tupAt (by rfl) (by rfl) ?_; refine WPL.nil ?_
        refine ⟨by simp, _, rfl, rfl, ?_⟩
        refine WPS.ret ?_; refine WPE.ifexp ?_; refine WPB.bools ?_; refine WPBA.or ?_; refine WPB.cmp ?_; refine WPE.name rfl ?_; refine WPE.cnone ?_
        refine Op2.isNone ⟨_, rfl, fun hn => ?_, fun hn => ?_⟩
        · refine WPBA.or ?_; refine WPB.cmp ?_; refine WPE.name rfl ?_; refine WPE.tuple ?_; refine WPL.nil ?_
          refine ⟨by simp, ?_⟩
          refine Op2.eqD O (.flat _ rfl) (.flat _ rfl) (sh_field k) rfl ⟨_, rfl, fun _ => ?_, fun h => by cases h⟩
          refine WPBA.orNil ⟨fun h => (by cases h), fun _ => ?_⟩
          cases e : dget K 4 with
          | none => rw [e] at hn; cases hn
          | some p =>
            obtain ⟨a, b, rfl⟩ := ok.at4 e
            refine WPE.item ?_; refine WPE.name rfl ?_; refine WPE.item ?_; refine WPE.nameAt (by rfl) (by rfl) (by rfl) ?_; refine WPE.cint ?_; refine Op2.tupAt (by rfl) (by rfl) ?_
            rcases (show k = 0 ∨ k = 1 from ho) with rfl | rfl
            · refine Op2.tupAt (j := 0) (by rfl) (by rfl) ?_
              exact ⟨by simp [worth, e], rfl⟩
            · refine Op2.tupAt (j := 1) (by rfl) (by rfl) ?_
              exact ⟨by simp [worth, e], rfl⟩
        · refine ⟨fun _ => ?_, fun h => by cases h⟩
          refine WPE.name rfl ?_
          cases e : dget K 4 with
          | none => exact ⟨by simp [worth, e], rfl⟩
          | some p =>
            obtain ⟨a, b, rfl⟩ := ok.at4 e
            rw [e] at hn; cases hn

noncomputable def unOpd : PV → Opd
  | .tup [_, _, .int v] => .const v
  | .tup [_, .tup [.int l, .tup []]] => .copy (.whole l)
  | .tup [_, .tup [_, .tup [.tup [_, .int k]]]] => .copy (.part k)
  | _ => .const 0
theorem unOpd_pv (o : Opd) : unOpd o.pv = o := by
  cases o with
  | const v => rfl
  | copy q => cases q <;> rfl
theorem told_none {K : Known} {o : Opd} (e : worth K o = .none) : told K o = o := by unfold told; rw [e]
theorem told_int {K : Known} {o : Opd} {v : Int} (e : worth K o = .int v) : told K o = .const v := by unfold told; rw [e]
theorem cl_told (x : Px) {σ : List Cell} {kd : Nat} {K : Known} (hk : σ[kd]? = some (.dict K)) (ok : KOk K) {o : Opd} (ho : o.ok) : Cl (GG x) 4 487 [.ref kd, o.pv] σ fun p σ' => p = (told K o).pv ∧ σ' = σ := by
  refine Cl.def (name := _) ["known", "operand"] rfl rfl ?_ (by decide) (by decide) ?_
  · exact fun s vs _ h => vs2 (P := fun vs => BindsTo s _ ⟨vs, []⟩ (List.zip _ vs)) h fun _ _ => BindsTo.of_eq rfl
  · intro F O hs' hc
    refine WPS.assign O (kof hs' rfl) ?_; refine WPE.call O (fa := 480) (kof hs' rfl) rfl rfl ?_; refine WPL.args (by rfl) ?_
    refine Cl.u0ps (cl_worth x hk ok ho) O ?_
    refine WPS.ret ?_; refine WPE.ifexp ?_; refine WPB.cmp ?_; refine WPE.name rfl ?_; refine WPE.cnone ?_
    rcases worth_ok ok ho with e | ⟨v, e⟩
    · refine Op2.isNone ⟨_, rfl, fun h => ?_, fun h => by rw [e] at h; cases h⟩
      refine WPE.name rfl ?_
      exact ⟨by rw [told_none e], rfl⟩
    · refine Op2.isNone ⟨_, rfl, fun h => by rw [e] at h; (cases h), fun h => ?_⟩
      refine WPE.tuple ?_; refine WPL.cons ?_; refine WPE.cstr ?_; refine WPL.cons ?_; refine WPE.call0 O (fa := 435) (kof hs' rfl) rfl rfl ?_
      refine Cl.u0ps (cl_byte x) O ?_
      refine WPL.args (by rfl) ?_
      refine ⟨by simp, ?_⟩
      rw [told_int e, e]
      exact ⟨rfl, rfl⟩

theorem cl_made (x : Px) {σ : List Cell} {kd : Nat} {K : Known} (hk : σ[kd]? = some (.dict K)) (ok : KOk K) {r : Row} (hr : r.ok) : Cl (GG x) 6 492 [.ref kd, r.pv] σ fun p σ' => p = (made K r).pv ∧ Keep [] σ σ' := by
  refine Cl.defC (name := _) ["known", "row"] rfl rfl ?_ (by decide) (by decide) (by decide) ?_
  · exact fun s vs _ h => vs2 (P := fun vs => BindsTo s _ ⟨vs, []⟩ (List.zip _ vs)) h fun _ _ => BindsTo.of_eq rfl
  · intro F O hs' hc
    cases r with
    | print o =>
      refine WPS.ifTagT (by rfl) (by rfl) (by rfl) (by rfl) ?_
      refine WPS.ret ?_; refine WPE.tuple ?_; refine WPL.cons ?_; refine WPE.cstr ?_; refine WPL.cons ?_; refine WPE.call O (fa := 487) (kof hs' rfl) rfl rfl ?_; refine WPL.consN (by rfl) ?_; refine WPL.cons ?_; refine WPE.nameAt (by rfl) (by rfl) (by rfl) ?_; refine WPL.nil ?_
      refine Cl.op (Cl.mono (cl_told x hk ok hr) ?_) (O.le (by decide))
      rintro p σ₁ ⟨rfl, rfl⟩
      exact WPL.nil ⟨by simp, rfl, Keep.refl⟩
    | mark lv l =>
      refine WPS.ifTag (by rfl) (by rfl) (by rfl) ?_
      refine ⟨fun h => (by cases lv <;> cases h), fun _ => ?_⟩
      refine WPS.nil ?_; refine WPS.ite ?_; refine WPB.bools ?_; refine WPBA.or ?_; refine WPB.nameTagNe (by rfl) (by rfl) (by rfl) ?_
      refine ⟨fun h => (by cases lv <;> cases h), fun _ => ⟨fun _ => ?_, fun h => by cases h⟩⟩
      refine WPS.ret ?_; refine WPE.name rfl ?_
      exact ⟨rfl, Keep.refl⟩
    | lend q =>
      refine WPS.ifTagF0 (by rfl) (by rfl) (by rfl) (by rfl) ?_
      refine WPS.ite ?_; refine WPB.bools ?_; refine WPBA.or ?_; refine WPB.nameTagNe (by rfl) (by rfl) (by rfl) ?_
      refine ⟨fun _ => ?_, fun h => by cases h⟩
      refine WPBA.or ?_; refine WPB.cmp ?_; refine WPE.item ?_; refine WPE.nameAt (by rfl) (by rfl) (by rfl) ?_; refine WPE.cint ?_; refine Op2.tupAt (by rfl) (by rfl) ?_; refine WPE.cstr ?_
      refine Op2.eqS ⟨_, rfl, fun h => (by cases h), fun _ => ⟨fun _ => ?_, fun h => by cases h⟩⟩
      refine WPS.ret ?_; refine WPE.name rfl ?_
      exact ⟨rfl, Keep.refl⟩
    | use q o =>
      refine WPS.ifTagF0 (by rfl) (by rfl) (by rfl) (by rfl) ?_
      refine WPS.ite ?_; refine WPB.bools ?_; refine WPBA.or ?_; refine WPB.nameTagNe (by rfl) (by rfl) (by rfl) ?_
      refine ⟨fun _ => ?_, fun h => by cases h⟩
      refine WPBA.or ?_; refine WPB.cmp ?_; refine WPE.item ?_; refine WPE.nameAt (by rfl) (by rfl) (by rfl) ?_; refine WPE.cint ?_; refine Op2.tupAt (by rfl) (by rfl) ?_; refine WPE.cstr ?_
      refine Op2.eqS ⟨_, rfl, fun _ => ?_, fun h => by cases h⟩
      refine WPBA.orNil ⟨fun h => (by cases h), fun _ => ?_⟩
      refine WPS.nil ?_; refine WPS.ite ?_; refine WPB.cmp ?_; refine WPE.item ?_; refine WPE.nameAt (by rfl) (by rfl) (by rfl) ?_; refine WPE.cint ?_; refine Op2.tupAt (by rfl) (by rfl) ?_; refine WPE.cstr ?_
      refine Op2.eqS ⟨_, rfl, fun _ => ?_, fun h => by cases h⟩
      refine WPS.ret ?_; refine WPE.tuple ?_; refine WPL.cons ?_; refine WPE.cstr ?_; refine WPL.cons ?_; refine WPE.nameAt (by rfl) (by rfl) (by rfl) ?_; refine WPL.cons ?_; refine WPE.tuple ?_; refine WPL.cons ?_; refine WPE.cstr ?_; refine WPL.cons ?_; refine WPE.call O (fa := 487) (kof hs' rfl) rfl rfl ?_; refine WPL.consN (by rfl) ?_; refine WPL.cons ?_; refine WPE.item ?_; refine WPE.nameAt (by rfl) (by rfl) (by rfl) ?_; refine WPE.cint ?_; refine Op2.tupAt (by rfl) (by rfl) ?_; refine WPL.nil ?_
      refine Cl.op (Cl.mono (cl_told x hk ok hr.2) ?_) (O.le (by decide))
      rintro p σ₁ ⟨rfl, rfl⟩
      exact WPL.nil ⟨by simp, WPL.nil ⟨by simp, rfl, Keep.refl⟩⟩
    | two a b =>
      refine WPS.ifTagF0 (by rfl) (by rfl) (by rfl) (by rfl) ?_
      refine WPS.ite ?_; refine WPB.bools ?_; refine WPBA.or ?_; refine WPB.nameTagNe (by rfl) (by rfl) (by rfl) ?_
      refine ⟨fun _ => ?_, fun h => by cases h⟩
      refine WPBA.or ?_; refine WPB.cmp ?_; refine WPE.item ?_; refine WPE.nameAt (by rfl) (by rfl) (by rfl) ?_; refine WPE.cint ?_; refine Op2.tupAt (by rfl) (by rfl) ?_; refine WPE.cstr ?_
      refine Op2.eqS ⟨_, rfl, fun _ => ?_, fun h => by cases h⟩
      refine WPBA.orNil ⟨fun h => (by cases h), fun _ => ?_⟩
      refine WPS.nil ?_; refine WPS.ite ?_; refine WPB.cmp ?_; refine WPE.item ?_; refine WPE.nameAt (by rfl) (by rfl) (by rfl) ?_; refine WPE.cint ?_; refine Op2.tupAt (by rfl) (by rfl) ?_; refine WPE.cstr ?_
      refine Op2.eqS ⟨_, rfl, fun h => (by cases h), fun _ => ?_⟩
      refine WPS.nil ?_; refine WPS.ret ?_; refine WPE.tuple ?_; refine WPL.cons ?_; refine WPE.cstr ?_; refine WPL.cons ?_; refine WPE.nameAt (by rfl) (by rfl) (by rfl) ?_; refine WPL.cons ?_; refine WPE.tuple ?_; refine WPL.cons ?_; refine WPE.cstr ?_; refine WPL.cons ?_; refine WPE.tcall O (kof hs' rfl) rfl rfl (by decide) ?_; refine WPL.cons ?_
      refine WPE.compPure O [("known", .ref kd)] (fun p => (told K (unOpd p)).pv) ?_ rfl rfl ?_ (freeOk hc rfl)
      · refine WPI.tup O ?_
        refine WPE.item ?_; refine WPE.nameAt (by rfl) (by rfl) (by rfl) ?_; refine WPE.cint ?_; refine Op2.tupAt (by rfl) (by rfl) ?_
        refine ⟨_, rfl, ⟨by simp, fun _ => trivial, fun cenv ce p hp l => ?_⟩, ?_⟩
        · have : ∃ o : Opd, o.ok ∧ p = o.pv := by
            simp only [List.mem_cons, List.not_mem_nil, or_false] at hp
            rcases hp with rfl | rfl
            · exact ⟨a, hr.1, rfl⟩
            · exact ⟨b, hr.2, rfl⟩
          obtain ⟨o, ho, rfl⟩ := this
          refine WPE.call O (fa := 487) (ce.kind _ _ rfl (by intro z; cases z)) rfl rfl ?_
          refine WPL.args (by rfl) ?_
          refine Cl.u0ps (cl_told x (get_app hk) ok ho) O ?_
          exact ⟨by show _ = (told K (unOpd o.pv)).pv; rw [unOpd_pv], rfl⟩
        · refine WPL.nil ?_
          refine OpN.tupOfList getNew (by simp) (WPL.nil ⟨by simp, WPL.nil ⟨by simp, ?_, Keep.app⟩⟩)
          simp only [List.map_cons, List.map_nil, unOpd_pv]
          rfl
      · intro x p e
        obtain ⟨rfl, rfl⟩ := lookup1 e
        exact ⟨rfl, rfl, by rw [kof (x := "known") (k := .cell) hs' rfl]; intro z; cases z⟩

/-- lent, as the law tells it -/
noncomputable def lentIn (L : List Int) (l : Int) : Bool := L.contains l
noncomputable def intsPV (L : List Int) : List PV := L.map .int
theorem eqv_int {a b : Int} : PyData.eqv (.int a) (.int b) = (a == b) := by simp [PyData.eqv]
theorem dv_ints {σ : List Cell} {j : Nat} {L : List Int} (h : σ[j]? = some (.list (intsPV L))) : DV σ (.ref j) (.list (L.map .int)) := by
  refine .list h ?_
  clear h
  induction L with
  | nil => exact .nil
  | cons a L ih => exact .cons (.flat (.int a) rfl) ih
theorem lay_ints : ∀ {L : List Int}, PyData.canLayAll0 (L.map .int) = true
  | [] => rfl
  | a :: L => by simp [PyData.canLayAll0, PyData.canLay0, lay_ints (L := L)]
theorem any_ints {L : List Int} {l : Int} : ((L.map PyData.int).any fun y => PyData.eqv y (.int l)) = lentIn L l := by
  unfold lentIn
  rw [List.any_map, List.contains_eq_any_beq]
  congr 1
  funext y
  simp only [Function.comp, eqv_int]
  exact Bool.eq_iff_iff.mpr ⟨fun h => by simpa using (by simpa using h : y = l).symm, fun h => by simpa using (by simpa using h : l = y).symm⟩
theorem any_intsD {L : List Int} {l : Int} : ((L.map PyData.int).any fun y => PyData.eqv y (PV.int l).dat) = lentIn L l := any_ints
theorem cl_behind (x : Px) {σ : List Cell} {kd ld : Nat} {K : Known} {L : List Int} (hk : σ[kd]? = some (.dict K)) (hl : σ[ld]? = some (.list (intsPV L))) (ok : KOk K) {r : Row} (hr : r.ok) :
    Cl (GG x) 6 497 [.ref kd, r.pv, .ref ld] σ fun _ σ' => σ'[kd]? = some (.dict (step (lentIn L) K r)) ∧ Keep [kd] σ σ' := by
  have kl : kd ≠ ld := fun q => by rw [q, hl] at hk; cases hk
  refine Cl.defC (name := _) ["known", "row", "lent"] rfl rfl ?_ (by decide) (by decide) (by decide) ?_
  · exact fun s vs _ h => vs3 (P := fun vs => BindsTo s _ ⟨vs, []⟩ (List.zip _ vs)) h fun _ _ _ => BindsTo.of_eq rfl
  · intro F O hs' hc
    cases r with
    | print o =>
      refine WPS.ifTagT (by rfl) (by rfl) (by rfl) (by rfl) ?_
      refine WPS.cons (WPX.ret0 ⟨hk, Keep.refl⟩)
    | mark lv l =>
      refine WPS.ifTag (by rfl) (by rfl) (by rfl) ?_
      refine ⟨fun h => (by cases lv <;> cases h), fun _ => ?_⟩
      refine WPS.nil ?_; refine WPS.cons ?_
      refine WPX.swap O ["local", "worth"] ?_ (by unfold swappedStores Env.blockKind Env.kindOf; rw [hs']; rfl) (by intro x hx; simp at hx; rcases hx with rfl | rfl <;> exact kof hs' rfl)
      refine WPE.tuple ?_; refine WPL.cons ?_; refine WPE.ifexp ?_; refine WPB.nameTagNe (by rfl) (by rfl) (by rfl) ?_
      refine ⟨fun _ => ?_, fun h => by cases lv <;> cases h⟩
      refine WPE.nameAt (by rfl) (by rfl) (by rfl) ?_; refine WPL.cons ?_; refine WPE.cnone ?_; refine WPL.nil ?_
      refine ⟨by simp, _, rfl, rfl, ?_⟩
      refine WPS.ite ?_; refine WPB.bools ?_; refine WPBA.and ?_; refine WPB.nameTag (by rfl) (by rfl) (by rfl) ?_
      refine ⟨fun h => (by cases lv <;> cases h), fun _ => ⟨fun h => (by cases h), fun _ => ?_⟩⟩
      refine WPS.nil ?_; refine WPS.ite ?_; refine WPB.bools ?_; refine WPBA.and ?_; refine WPB.nameTag (by rfl) (by rfl) (by rfl) ?_
      refine ⟨fun h => (by cases lv <;> cases h), fun _ => ⟨fun h => (by cases h), fun _ => ?_⟩⟩
      refine WPS.nil ?_; refine WPS.cons ?_; refine WPX.expr ?_ (notInter O); refine WPE.bmeth (T := "dict") PySem.F.plainAttrs_dict PySem.F.slot_dict_pop PySem.F.type_dict_pop (.inr rfl) ?_; refine WPE.name rfl ?_
      refine ⟨kd, _, rfl, hk, rfl, ?_⟩
      refine WPL.consN (by rfl) ?_; refine WPL.cons ?_; refine WPE.cnone ?_; refine WPL.nil ?_
      refine OpN.dictPop hk (by have := ok.len; omega) ?_
      refine WPS.ite ?_; refine WPB.bools ?_; refine WPBA.and ?_; refine WPB.cmp ?_; refine WPE.name rfl ?_; refine WPE.cnone ?_
      refine Op2.notNone ⟨_, rfl, fun h => (by cases h), fun _ => ⟨fun h => (by cases h), fun _ => ?_⟩⟩
      exact WPS.nil (WPS.nil ⟨getSet hk, Keep.set (by simp)⟩)
    | lend q =>
      refine WPS.ifTagF0 (by rfl) (by rfl) (by rfl) (by rfl) ?_
      refine WPS.cons ?_
      refine WPX.swap O ["local", "worth"] ?_ (by unfold swappedStores Env.blockKind Env.kindOf; rw [hs']; rfl) (by intro x hx; simp at hx; rcases hx with rfl | rfl <;> exact kof hs' rfl)
      refine WPE.tuple ?_; refine WPL.cons ?_; refine WPE.ifexp ?_; refine WPB.nameTagNe (by rfl) (by rfl) (by rfl) ?_
      refine ⟨fun h => (by cases h), fun _ => ?_⟩
      refine WPE.item ?_; refine WPE.nameAt (by rfl) (by rfl) (by rfl) ?_; refine WPE.cint ?_; refine Op2.tupAt (by rfl) (by rfl) ?_; refine WPL.cons ?_; refine WPE.cnone ?_; refine WPL.nil ?_
      refine ⟨by simp, _, rfl, rfl, ?_⟩
      refine WPS.ite ?_; refine WPB.bools ?_; refine WPBA.and ?_; refine WPB.nameTag (by rfl) (by rfl) (by rfl) ?_
      refine ⟨fun _ => ?_, fun h => (by cases h)⟩
      refine WPBA.and ?_; refine WPB.cmp ?_; refine WPE.item ?_; refine WPE.nameAt (by rfl) (by rfl) (by rfl) ?_; refine WPE.cint ?_; refine Op2.tupAt (by rfl) (by rfl) ?_; refine WPE.tuple ?_; refine WPL.nil ?_
      refine ⟨by simp, ?_⟩
      refine Op2.eqD O (.flat _ rfl) (.flat _ rfl) rfl rfl ⟨_, rfl, fun _ => ?_, fun h => by cases h⟩
      refine WPBA.and ?_; refine WPB.cmp ?_; refine WPE.item ?_; refine WPE.nameAt (by rfl) (by rfl) (by rfl) ?_; refine WPE.cint ?_; refine Op2.tupAt (by rfl) (by rfl) ?_; refine WPE.cstr ?_
      refine Op2.eqS ⟨_, rfl, fun h => (by cases h), fun _ => ⟨fun h => (by cases h), fun _ => ?_⟩⟩
      refine WPS.nil ?_; refine WPS.ite ?_; refine WPB.bools ?_; refine WPBA.and ?_; refine WPB.nameTag (by rfl) (by rfl) (by rfl) ?_
      refine ⟨fun _ => ?_, fun h => (by cases h)⟩
      refine WPBA.and ?_; refine WPB.cmp ?_; refine WPE.item ?_; refine WPE.nameAt (by rfl) (by rfl) (by rfl) ?_; refine WPE.cint ?_; refine Op2.tupAt (by rfl) (by rfl) ?_; refine WPE.cstr ?_
      refine Op2.eqS ⟨_, rfl, fun h => (by cases h), fun _ => ⟨fun h => (by cases h), fun _ => ?_⟩⟩
      refine WPS.nil ?_; refine WPS.cons ?_; refine WPX.expr ?_ (notInter O); refine WPE.bmeth (T := "dict") PySem.F.plainAttrs_dict PySem.F.slot_dict_pop PySem.F.type_dict_pop (.inr rfl) ?_; refine WPE.name rfl ?_
      refine ⟨kd, _, rfl, hk, rfl, ?_⟩
      refine WPL.consN (by rfl) ?_; refine WPL.cons ?_; refine WPE.cnone ?_; refine WPL.nil ?_
      refine OpN.dictPop hk (by have := ok.len; omega) ?_
      refine WPS.ite ?_; refine WPB.bools ?_; refine WPBA.and ?_; refine WPB.cmp ?_; refine WPE.name rfl ?_; refine WPE.cnone ?_
      refine Op2.notNone ⟨_, rfl, fun h => (by cases h), fun _ => ⟨fun h => (by cases h), fun _ => ?_⟩⟩
      exact WPS.nil (WPS.nil ⟨getSet hk, Keep.set (by simp)⟩)
    | use q o =>
     cases q with
     | whole l =>
      refine WPS.ifTagF0 (by rfl) (by rfl) (by rfl) (by rfl) ?_
      refine WPS.cons ?_
      refine WPX.swap O ["local", "worth"] ?_ (by unfold swappedStores Env.blockKind Env.kindOf; rw [hs']; rfl) (by intro x hx; simp at hx; rcases hx with rfl | rfl <;> exact kof hs' rfl)
      refine WPE.tuple ?_; refine WPL.cons ?_; refine WPE.ifexp ?_; refine WPB.nameTagNe (by rfl) (by rfl) (by rfl) ?_
      refine ⟨fun h => (by cases h), fun _ => ?_⟩
      refine WPE.item ?_; refine WPE.nameAt (by rfl) (by rfl) (by rfl) ?_; refine WPE.cint ?_; refine Op2.tupAt (by rfl) (by rfl) ?_; refine WPL.cons ?_; refine WPE.cnone ?_; refine WPL.nil ?_
      refine ⟨by simp, _, rfl, rfl, ?_⟩
      refine WPS.ite ?_; refine WPB.bools ?_; refine WPBA.and ?_; refine WPB.nameTag (by rfl) (by rfl) (by rfl) ?_
      refine ⟨fun _ => ?_, fun h => (by cases h)⟩
      refine WPBA.and ?_; refine WPB.cmp ?_; refine WPE.item ?_; refine WPE.nameAt (by rfl) (by rfl) (by rfl) ?_; refine WPE.cint ?_; refine Op2.tupAt (by rfl) (by rfl) ?_; refine WPE.tuple ?_; refine WPL.nil ?_
      refine ⟨by simp, ?_⟩
      refine Op2.eqD O (.flat _ rfl) (.flat _ rfl) rfl rfl ⟨_, rfl, fun _ => ?_, fun h => by cases h⟩
      refine WPBA.and ?_; refine WPB.cmp ?_; refine WPE.item ?_; refine WPE.nameAt (by rfl) (by rfl) (by rfl) ?_; refine WPE.cint ?_; refine Op2.tupAt (by rfl) (by rfl) ?_; refine WPE.cstr ?_
      refine Op2.eqS ⟨_, rfl, fun _ => ?_, fun h => by cases h⟩
      refine WPBA.andNil ⟨fun _ => ?_, fun h => by cases h⟩
      refine WPS.assign O (kof hs' rfl) ?_; refine WPE.call O (fa := 480) (kof hs' rfl) rfl rfl ?_; refine WPL.consN (by rfl) ?_; refine WPL.cons ?_; refine WPE.item ?_; refine WPE.nameAt (by rfl) (by rfl) (by rfl) ?_; refine WPE.cint ?_; refine Op2.tupAt (by rfl) (by rfl) ?_; refine WPL.nil ?_
      refine Cl.op (Cl.mono (cl_worth x hk ok hr.2) ?_) (O.le (by decide))
      rintro p σ₁ ⟨rfl, rfl⟩
      refine WPS.nil ?_
      refine WPS.ite ?_; refine WPB.bools ?_; refine WPBA.and ?_; refine WPB.nameTag (by rfl) (by rfl) (by rfl) ?_
      refine ⟨fun _ => ?_, fun h => (by cases h)⟩
      refine WPBA.and ?_; refine WPB.cmp ?_; refine WPE.item ?_; refine WPE.nameAt (by rfl) (by rfl) (by rfl) ?_; refine WPE.cint ?_; refine Op2.tupAt (by rfl) (by rfl) ?_; refine WPE.cstr ?_
      refine Op2.eqS ⟨_, rfl, fun h => (by cases h), fun _ => ⟨fun h => (by cases h), fun _ => ?_⟩⟩
      refine WPS.nil ?_; refine WPS.cons ?_; refine WPX.expr ?_ (notInter O); refine WPE.bmeth (T := "dict") PySem.F.plainAttrs_dict PySem.F.slot_dict_pop PySem.F.type_dict_pop (.inr rfl) ?_; refine WPE.name rfl ?_
      refine ⟨kd, _, rfl, hk, rfl, ?_⟩
      refine WPL.consN (by rfl) ?_; refine WPL.cons ?_; refine WPE.cnone ?_; refine WPL.nil ?_
      refine OpN.dictPop hk (by have := ok.len; omega) ?_
      refine WPS.ite ?_; refine WPB.bools ?_; refine WPBA.and ?_; refine WPB.cmp ?_; refine WPE.name rfl ?_; refine WPE.cnone ?_
      rcases worth_ok ok hr.2 with ew | ⟨v, ew⟩
      · rw [ew]
        refine Op2.notNone ⟨_, rfl, fun h => (by cases h), fun _ => ⟨fun h => (by cases h), fun _ => ?_⟩⟩
        refine WPS.nil (WPS.nil ⟨?_, Keep.set (by simp)⟩)
        rw [getSet hk]; simp [step, ew]
      · rw [ew]
        refine Op2.notNone ⟨_, rfl, fun _ => ?_, fun h => by cases h⟩
        refine WPBA.and ?_; refine WPB.cmp ?_; refine WPE.name rfl ?_; refine WPE.name rfl ?_
        refine Op2.notInList O (.flat _ rfl) (dv_ints (getSetNe hl kl)) rfl lay_ints ⟨_, rfl, fun h => ?_, fun h => ?_⟩
        · rw [any_intsD] at h
          refine WPBA.andNil ⟨fun _ => ?_, fun h => by cases h⟩
          refine WPS.cons ?_; refine WPX.setItem ?_; refine WPE.name rfl ?_; refine WPE.name rfl ?_; refine WPE.name rfl ?_
          refine OpU.dset (getSet hk) (by have := ok.del (l := l); have := this.len; omega) ?_
          refine WPS.nil (WPS.nil ⟨?_, (Keep.set (by simp)).trans (Keep.set (by simp))⟩)
          rw [getSet (getSet hk)]
          have h : lentIn L l = false := by simpa using h
          simp [step, ew, h]
        · rw [any_intsD] at h
          refine ⟨fun h => (by cases h), fun _ => ?_⟩
          refine WPS.nil (WPS.nil ⟨?_, Keep.set (by simp)⟩)
          rw [getSet hk]
          have h : lentIn L l = true := by simpa using h
          simp [step, ew, h]
     | part k =>
      refine WPS.ifTagF0 (by rfl) (by rfl) (by rfl) (by rfl) ?_
      refine WPS.cons ?_
      refine WPX.swap O ["local", "worth"] ?_ (by unfold swappedStores Env.blockKind Env.kindOf; rw [hs']; rfl) (by intro x hx; simp at hx; rcases hx with rfl | rfl <;> exact kof hs' rfl)
      refine WPE.tuple ?_; refine WPL.cons ?_; refine WPE.ifexp ?_; refine WPB.nameTagNe (by rfl) (by rfl) (by rfl) ?_
      refine ⟨fun h => (by cases h), fun _ => ?_⟩
      refine WPE.item ?_; refine WPE.nameAt (by rfl) (by rfl) (by rfl) ?_; refine WPE.cint ?_; refine Op2.tupAt (by rfl) (by rfl) ?_; refine WPL.cons ?_; refine WPE.cnone ?_; refine WPL.nil ?_
      refine ⟨by simp, _, rfl, rfl, ?_⟩
      refine WPS.ite ?_; refine WPB.bools ?_; refine WPBA.and ?_; refine WPB.nameTag (by rfl) (by rfl) (by rfl) ?_
      refine ⟨fun _ => ?_, fun h => (by cases h)⟩
      refine WPBA.and ?_; refine WPB.cmp ?_; refine WPE.item ?_; refine WPE.nameAt (by rfl) (by rfl) (by rfl) ?_; refine WPE.cint ?_; refine Op2.tupAt (by rfl) (by rfl) ?_; refine WPE.tuple ?_; refine WPL.nil ?_
      refine ⟨by simp, ?_⟩
      refine Op2.eqD O (.flat _ rfl) (.flat _ rfl) (sh_field k) rfl ⟨_, rfl, fun h => (by cases h), fun _ => ⟨fun h => (by cases h), fun _ => ?_⟩⟩
      refine WPS.nil ?_; refine WPS.ite ?_; refine WPB.bools ?_; refine WPBA.and ?_; refine WPB.nameTag (by rfl) (by rfl) (by rfl) ?_
      refine ⟨fun _ => ?_, fun h => (by cases h)⟩
      refine WPBA.and ?_; refine WPB.cmp ?_; refine WPE.item ?_; refine WPE.nameAt (by rfl) (by rfl) (by rfl) ?_; refine WPE.cint ?_; refine Op2.tupAt (by rfl) (by rfl) ?_; refine WPE.cstr ?_
      refine Op2.eqS ⟨_, rfl, fun h => (by cases h), fun _ => ⟨fun h => (by cases h), fun _ => ?_⟩⟩
      refine WPS.nil ?_; refine WPS.cons ?_; refine WPX.expr ?_ (notInter O); refine WPE.bmeth (T := "dict") PySem.F.plainAttrs_dict PySem.F.slot_dict_pop PySem.F.type_dict_pop (.inr rfl) ?_; refine WPE.name rfl ?_
      refine ⟨kd, _, rfl, hk, rfl, ?_⟩
      refine WPL.consN (by rfl) ?_; refine WPL.cons ?_; refine WPE.cnone ?_; refine WPL.nil ?_
      refine OpN.dictPop hk (by have := ok.len; omega) ?_
      refine WPS.ite ?_; refine WPB.bools ?_; refine WPBA.and ?_; refine WPB.cmp ?_; refine WPE.name rfl ?_; refine WPE.cnone ?_
      refine Op2.notNone ⟨_, rfl, fun h => (by cases h), fun _ => ⟨fun h => (by cases h), fun _ => ?_⟩⟩
      exact WPS.nil (WPS.nil ⟨getSet hk, Keep.set (by simp)⟩)
    | two a b =>
      refine WPS.ifTagF0 (by rfl) (by rfl) (by rfl) (by rfl) ?_
      refine WPS.cons ?_
      refine WPX.swap O ["local", "worth"] ?_ (by unfold swappedStores Env.blockKind Env.kindOf; rw [hs']; rfl) (by intro x hx; simp at hx; rcases hx with rfl | rfl <;> exact kof hs' rfl)
      refine WPE.tuple ?_; refine WPL.cons ?_; refine WPE.ifexp ?_; refine WPB.nameTagNe (by rfl) (by rfl) (by rfl) ?_
      refine ⟨fun h => (by cases h), fun _ => ?_⟩
      refine WPE.item ?_; refine WPE.nameAt (by rfl) (by rfl) (by rfl) ?_; refine WPE.cint ?_; refine Op2.tupAt (by rfl) (by rfl) ?_; refine WPL.cons ?_; refine WPE.cnone ?_; refine WPL.nil ?_
      refine ⟨by simp, _, rfl, rfl, ?_⟩
      refine WPS.ite ?_; refine WPB.bools ?_; refine WPBA.and ?_; refine WPB.nameTag (by rfl) (by rfl) (by rfl) ?_
      refine ⟨fun _ => ?_, fun h => (by cases h)⟩
      refine WPBA.and ?_; refine WPB.cmp ?_; refine WPE.item ?_; refine WPE.nameAt (by rfl) (by rfl) (by rfl) ?_; refine WPE.cint ?_; refine Op2.tupAt (by rfl) (by rfl) ?_; refine WPE.tuple ?_; refine WPL.nil ?_
      refine ⟨by simp, ?_⟩
      refine Op2.eqD O (.flat _ rfl) (.flat _ rfl) rfl rfl ⟨_, rfl, fun _ => ?_, fun h => by cases h⟩
      refine WPBA.and ?_; refine WPB.cmp ?_; refine WPE.item ?_; refine WPE.nameAt (by rfl) (by rfl) (by rfl) ?_; refine WPE.cint ?_; refine Op2.tupAt (by rfl) (by rfl) ?_; refine WPE.cstr ?_
      refine Op2.eqS ⟨_, rfl, fun h => (by cases h), fun _ => ⟨fun h => (by cases h), fun _ => ?_⟩⟩
      refine WPS.nil ?_; refine WPS.ite ?_; refine WPB.bools ?_; refine WPBA.and ?_; refine WPB.nameTag (by rfl) (by rfl) (by rfl) ?_
      refine ⟨fun _ => ?_, fun h => (by cases h)⟩
      refine WPBA.and ?_; refine WPB.cmp ?_; refine WPE.item ?_; refine WPE.nameAt (by rfl) (by rfl) (by rfl) ?_; refine WPE.cint ?_; refine Op2.tupAt (by rfl) (by rfl) ?_; refine WPE.cstr ?_
      refine Op2.eqS ⟨_, rfl, fun _ => ?_, fun h => (by cases h)⟩
      refine WPBA.andNil ⟨fun _ => ?_, fun h => by cases h⟩
      refine WPS.assign O (kof hs' rfl) ?_; refine WPE.tcall O (kof hs' rfl) rfl rfl (by decide) ?_; refine WPL.cons ?_
      refine WPE.compPure O [("known", .ref kd)] (fun p => worth K (unOpd p)) ?_ rfl rfl ?_ (freeOk hc rfl)
      rotate_left
      · intro x p e
        obtain ⟨rfl, rfl⟩ := lookup1 e
        exact ⟨rfl, rfl, by rw [kof (x := "known") (k := .cell) hs' rfl]; intro z; cases z⟩
      refine WPI.tup O ?_
      refine WPE.item ?_; refine WPE.nameAt (by rfl) (by rfl) (by rfl) ?_; refine WPE.cint ?_; refine Op2.tupAt (by rfl) (by rfl) ?_
      refine ⟨_, rfl, ⟨by simp, fun _ => trivial, fun cenv ce p hp l => ?_⟩, ?_⟩
      · have : ∃ o : Opd, o.ok ∧ p = o.pv := by
          simp only [List.mem_cons, List.not_mem_nil, or_false] at hp
          rcases hp with rfl | rfl
          · exact ⟨a, hr.1, rfl⟩
          · exact ⟨b, hr.2, rfl⟩
        obtain ⟨o, ho, rfl⟩ := this
        refine WPE.call O (fa := 480) (ce.kind _ _ rfl (by intro z; cases z)) rfl rfl ?_
        refine WPL.args (by rfl) ?_
        refine Cl.op (Cl.mono (cl_worth x (get_app hk) ok ho) ?_) (O.le (by decide))
        rintro p σ₁ ⟨rfl, rfl⟩
        exact ⟨by show _ = worth K (unOpd o.pv); rw [unOpd_pv], rfl⟩
      refine WPL.nil ?_
      refine OpN.tupOfList getNew (by simp) ?_
      simp only [List.map_cons, List.map_nil, unOpd_pv]
      have hk := get_app (τ := [Cell.list [worth K a, worth K b]]) hk
      have hl := get_app (τ := [Cell.list [worth K a, worth K b]]) hl
      have kk : Keep [kd] σ (σ ++ [Cell.list [worth K a, worth K b]]) := Keep.app
      generalize σ ++ [Cell.list [worth K a, worth K b]] = σ₁ at hk hl kk
      have key : ∀ {wa wb : PV}, (wa = .none ∨ ∃ v : Int, wa = .int v) → (wb = .none ∨ ∃ v : Int, wb = .int v) → DV σ₁ (.tup [wa, wb]) (.tuple [wa.dat, wb.dat]) ∧ PyData.canLayAll0 [wa.dat, wb.dat] = true := by
        rintro wa wb (rfl | ⟨v, rfl⟩) (rfl | ⟨w, rfl⟩) <;> exact ⟨.flat _ rfl, rfl⟩
      obtain ⟨dv, lay⟩ := key (worth_ok ok hr.1) (worth_ok ok hr.2)
      refine WPS.assign O (kof hs' rfl) ?_; refine WPE.ifexp ?_; refine WPB.cmp ?_; refine WPE.cnone ?_; refine WPE.name rfl ?_
      refine Op2.inTup O (.flat .none rfl) dv rfl lay ⟨_, rfl, fun h => ?_, fun h => ?_⟩
      · refine WPE.cnone ?_
        have st : step (lentIn L) K (.two a b) = ddel K 4 := by
          rcases worth_ok ok hr.1 with ea | ⟨v, ea⟩ <;> rcases worth_ok ok hr.2 with eb | ⟨w, eb⟩ <;> rw [ea, eb] at h <;> first | (simp [step, ea, eb]; done) | (cases h)
        rw [st]
        refine WPS.nil ?_
        refine WPS.cons ?_; refine WPX.expr ?_ (notInter O); refine WPE.bmeth (T := "dict") PySem.F.plainAttrs_dict PySem.F.slot_dict_pop PySem.F.type_dict_pop (.inr rfl) ?_; refine WPE.name rfl ?_
        refine ⟨kd, _, rfl, hk, rfl, ?_⟩
        refine WPL.consN (by rfl) ?_; refine WPL.cons ?_; refine WPE.cnone ?_; refine WPL.nil ?_
        refine OpN.dictPop hk (by have := ok.len; omega) ?_
        refine WPS.ite ?_; refine WPB.bools ?_; refine WPBA.and ?_; refine WPB.cmp ?_; refine WPE.name rfl ?_; refine WPE.cnone ?_
        refine Op2.notNone ⟨_, rfl, fun h => (by cases h), fun _ => ⟨fun h => (by cases h), fun _ => ?_⟩⟩
        exact WPS.nil (WPS.nil ⟨getSet hk, kk.trans (Keep.set (by simp))⟩)
      · refine WPE.name rfl ?_
        obtain ⟨v, w, ea, eb⟩ : ∃ v w : Int, worth K a = .int v ∧ worth K b = .int w := by
          rcases worth_ok ok hr.1 with ea | ⟨v, ea⟩ <;> rcases worth_ok ok hr.2 with eb | ⟨w, eb⟩ <;> rw [ea, eb] at h <;> first | exact ⟨_, _, ea, eb⟩ | (cases h)
        rw [ea, eb]
        refine WPS.nil ?_
        refine WPS.cons ?_; refine WPX.expr ?_ (notInter O); refine WPE.bmeth (T := "dict") PySem.F.plainAttrs_dict PySem.F.slot_dict_pop PySem.F.type_dict_pop (.inr rfl) ?_; refine WPE.name rfl ?_
        refine ⟨kd, _, rfl, hk, rfl, ?_⟩
        refine WPL.consN (by rfl) ?_; refine WPL.cons ?_; refine WPE.cnone ?_; refine WPL.nil ?_
        refine OpN.dictPop hk (by have := ok.len; omega) ?_
        refine WPS.ite ?_; refine WPB.bools ?_; refine WPBA.and ?_; refine WPB.cmp ?_; refine WPE.name rfl ?_; refine WPE.cnone ?_
        refine Op2.notNone ⟨_, rfl, fun _ => ?_, fun h => by cases h⟩
        refine WPBA.and ?_; refine WPB.cmp ?_; refine WPE.name rfl ?_; refine WPE.name rfl ?_
        refine Op2.notInList O (.flat _ rfl) (dv_ints (getSetNe hl kl)) rfl lay_ints ⟨_, rfl, fun h => ?_, fun h => ?_⟩
        · rw [any_intsD] at h
          refine WPBA.andNil ⟨fun _ => ?_, fun h => by cases h⟩
          refine WPS.cons ?_; refine WPX.setItem ?_; refine WPE.name rfl ?_; refine WPE.name rfl ?_; refine WPE.name rfl ?_
          refine OpU.dset (getSet hk) (by have := ok.del (l := 4); have := this.len; omega) ?_
          refine WPS.nil (WPS.nil ⟨?_, kk.trans ((Keep.set (by simp)).trans (Keep.set (by simp)))⟩)
          rw [getSet (getSet hk)]
          have h : lentIn L 4 = false := by simpa using h
          simp [step, ea, eb, h]
        · rw [any_intsD] at h
          refine ⟨fun h => (by cases h), fun _ => ?_⟩
          refine WPS.nil (WPS.nil ⟨?_, kk.trans (Keep.set (by simp))⟩)
          rw [getSet hk]
          have h : lentIn L 4 = true := by simpa using h
          simp [step, ea, eb, h]

/-- what is known, held by an instance of Facts -/
noncomputable def IsFacts (σ : List Cell) (f kd : Nat) (K : Known) : Prop := ∃ fd, σ[f]? = some (.inst 273 fd) ∧ σ[fd]? = some (.names [("known", .ref kd)]) ∧ σ[kd]? = some (.dict K)
noncomputable def Plc.loc : Plc → Int
  | .whole l => l
  | .part _ => 4
theorem cl_forget (x : Px) {σ : List Cell} {f kd : Nat} {K : Known} (hf : IsFacts σ f kd K) (hK : K.length ≤ 100) (q : Plc) : Cl (GG x) 2 270 [.ref f, q.pv] σ fun _ σ' => σ' = σ.set kd (.dict (ddel K q.loc)) := by
  obtain ⟨fd, h1, h2, h3⟩ := hf
  refine Cl.def (name := _) ["self", "place"] rfl rfl ?_ (by decide) (by decide) ?_
  · exact fun s vs _ h => vs2 (P := fun vs => BindsTo s _ ⟨vs, []⟩ (List.zip _ vs)) h fun _ _ => BindsTo.of_eq rfl
  · intro F O hs' hc
    refine WPS.cons ?_; refine WPX.expr ?_ (notInter O); refine WPE.bmeth (T := "dict") PySem.F.plainAttrs_dict PySem.F.slot_dict_pop PySem.F.type_dict_pop (.inr rfl) ?_; refine WPE.attr ?_; refine WPE.name rfl ?_
    refine Op1.attr O h1 h2 (by rfl) ⟨by rfl, by rfl, by rfl⟩ ?_
    refine ⟨kd, _, rfl, h3, rfl, ?_⟩
    cases q with
    | whole l =>
      refine WPL.cons ?_; refine WPE.nameAt (by rfl) (by rfl) (by rfl) ?_; refine WPL.cons ?_; refine WPE.cnone ?_; refine WPL.nil ?_
      exact OpN.dictPop h3 (by omega) (WPS.nil rfl)
    | part k =>
      refine WPL.cons ?_; refine WPE.nameAt (by rfl) (by rfl) (by rfl) ?_; refine WPL.cons ?_; refine WPE.cnone ?_; refine WPL.nil ?_
      exact OpN.dictPop h3 (by omega) (WPS.nil rfl)
noncomputable def plcV (K : Known) (q : Plc) : PV := worth K (.copy q)
theorem cl_at_place (x : Px) {σ : List Cell} {f kd : Nat} {K : Known} (hf : IsFacts σ f kd K) (ok : KOk K) {q : Plc} (hq : (Opd.copy q).ok) : Cl (GG x) 2 256 [.ref f, q.pv] σ fun p σ' => p = worth K (.copy q) ∧ σ' = σ := by
  obtain ⟨fd, h1, h2, h3⟩ := hf
  refine Cl.def (name := _) ["self", "place"] rfl rfl ?_ (by decide) (by decide) ?_
  · exact fun s vs _ h => vs2 (P := fun vs => BindsTo s _ ⟨vs, []⟩ (List.zip _ vs)) h fun _ _ => BindsTo.of_eq rfl
  · intro F O hs' hc
    refine WPS.assign O (kof hs' rfl) ?_; refine WPE.bmeth (T := "dict") PySem.F.plainAttrs_dict PySem.F.slot_dict_get PySem.F.type_dict_get (.inr rfl) ?_; refine WPE.attr ?_; refine WPE.name rfl ?_
    refine Op1.attr O h1 h2 (by rfl) ⟨by rfl, by rfl, by rfl⟩ ?_
    refine ⟨kd, _, rfl, h3, rfl, ?_⟩
    cases q with
    | whole l =>
      refine WPL.cons ?_; refine WPE.nameAt (by rfl) (by rfl) (by rfl) ?_; refine WPL.nil ?_
      refine OpN.dictGet h3 ?_
      refine WPS.cons (WPX.for O (WPI.tup O ?_))
      refine WPE.nameAt (by rfl) (by rfl) (by rfl) ?_
      refine ⟨_, rfl, fun k ρ' σ' => σ' = σ ∧ List.lookup ("value" : Str) ρ' = some (worth K (.copy (.whole l))), ⟨rfl, rfl⟩, fun _ _ _ _ => trivial, fun k p ρ' σ' e => by simp at e, fun ρ' σ' j => ?_⟩
      obtain ⟨rfl, j⟩ := j
      exact WPS.cons (WPX.ret (WPE.name j ⟨rfl, rfl⟩))
    | part k =>
      refine WPL.cons ?_; refine WPE.nameAt (by rfl) (by rfl) (by rfl) ?_; refine WPL.nil ?_
      refine OpN.dictGet h3 ?_
      refine WPS.cons (WPX.for O (WPI.tup O ?_))
      refine WPE.nameAt (by rfl) (by rfl) (by rfl) ?_
      refine ⟨_, rfl, fun n ρ' σ' => σ' = σ ∧ List.lookup ("value" : Str) ρ' = some (if n = 0 then (dget K 4).getD .none else worth K (.copy (.part k))), ⟨rfl, rfl⟩, fun _ _ _ _ => trivial, fun n p ρ' σ' e j => ?_, fun ρ' σ' j => ?_⟩
      · obtain ⟨rfl, j⟩ := j
        have hn : n = 0 := by
          have := (List.getElem?_eq_some_iff.mp e).1
          simp at this; omega
        subst hn
        simp at e j
        subst e
        refine WPA.name O (kof hs' rfl) ?_
        refine WPS.ite ?_; refine WPB.bools ?_; refine WPBA.or ?_; refine WPB.cmp ?_
        refine WPE.name j ?_
        refine WPE.cnone ?_
        refine Op2.isNone ⟨_, rfl, fun hn => ?_, fun hn => ?_⟩
        · refine WPBA.or ?_; refine WPB.nameTagNe (by rfl) (by rfl) (by rfl) ?_
          refine ⟨fun _ => ?_, fun h => by cases h⟩
          refine WPBA.orNil ⟨fun h => (by cases h), fun _ => ?_⟩
          cases e : dget K 4 with
          | none => rw [e] at hn; cases hn
          | some p =>
            obtain ⟨a, b, rfl⟩ := ok.at4 e
            rw [e] at j
            refine WPS.nil ?_; refine WPS.assign O (kof hs' rfl) ?_; refine WPE.item ?_
            refine WPE.name j ?_
            refine WPE.nameAt (by rfl) (by rfl) (by rfl) ?_
            rcases (show k = 0 ∨ k = 1 from hq) with rfl | rfl
            · refine Op2.tupAt (j := 0) (by rfl) (by rfl) ?_
              refine WPS.nil ⟨rfl, ?_⟩
              simp [worth, e]
            · refine Op2.tupAt (j := 1) (by rfl) (by rfl) ?_
              refine WPS.nil ⟨rfl, ?_⟩
              simp [worth, e]
        · refine ⟨fun _ => ?_, fun h => by cases h⟩
          refine WPS.ret ?_; refine WPE.cnone ?_
          cases e : dget K 4 with
          | none => exact ⟨by simp [worth, e], rfl⟩
          | some p =>
            obtain ⟨a, b, rfl⟩ := ok.at4 e
            rw [e] at hn; cases hn
      · obtain ⟨rfl, j⟩ := j
        exact WPS.cons (WPX.ret (WPE.name j ⟨rfl, rfl⟩))

noncomputable def plainPV : PV := .tup [.str "int", .str "bool"]
theorem vr_plain (x : Px) {F : FX} {n : Nat} (O : F.Ok (GG x) n) : ∀ m as s {σ : List Cell}, Inv (GG x) F m as σ s → VR s.heap as plainPV (.ref 223) := fun m as s σ I =>
  VR.top (k := _) (vs := _) O I (by rfl) (.cons (by rw [VR]; exact ⟨_, rfl⟩) (.cons (by rw [VR]; exact ⟨_, rfl⟩) .nil))
theorem meth_facts : True := trivial
theorem in_plain {a : Str} (h1 : PyData.strOk a = true) : PyData.canLayAll0 (PV.dats [.str "int", .str "bool"]) = true := by
  simp [PV.dats, PV.dat, PyData.canLayAll0, PyData.canLay0]
  decide +kernel
theorem sh_str {a : Str} (h : PyData.strOk a = true) : SeqAt.shaped (PV.dat (.str a)) = true := by
  simp [SeqAt.shaped, PV.dat, PyData.canLay0, PyData.depth]
  exact h
theorem cl_at_operand (x : Px) {σ : List Cell} {f kd : Nat} {K : Known} (hf : IsFacts σ f kd K) (ok : KOk K) {o : Opd} (ho : o.ok) : Cl (GG x) 4 263 [.ref f, o.pv] σ fun p σ' => p = worth K o ∧ σ' = σ := by
  obtain ⟨fd, h1, h2, h3⟩ := id hf
  refine Cl.def (name := _) ["self", "operand"] rfl rfl ?_ (by decide) (by decide) ?_
  · exact fun s vs _ h => vs2 (P := fun vs => BindsTo s _ ⟨vs, []⟩ (List.zip _ vs)) h fun _ _ => BindsTo.of_eq rfl
  · intro F O hs' hc
    cases o with
    | const v =>
      refine WPS.ifTagT (by rfl) (by rfl) (by rfl) (by rfl) ?_
      refine WPS.ret ?_; refine WPE.ifexp ?_; refine WPB.cmp ?_; refine WPE.item ?_; refine WPE.nameAt (by rfl) (by rfl) (by rfl) ?_; refine WPE.cint ?_; refine Op2.tupAt (by rfl) (by rfl) ?_
      refine WPE.gname O (kof hs' rfl) rfl (fun m as s I => vr_plain x O m as s I) ?_
      refine Op2.inTup O (.flat (.str "int") rfl) (.flat plainPV rfl) (sh_str (by decide +kernel)) (in_plain (a := "int") (by decide +kernel)) ⟨_, rfl, fun _ => ?_, fun h => ?_⟩
      · refine WPE.nameAt (by rfl) (by rfl) (by rfl) ?_
        exact ⟨rfl, rfl⟩
      · exact absurd h (by decide +kernel)
    | copy q =>
      refine WPS.ifTagF0 (by rfl) (by rfl) (by rfl) (by rfl) ?_
      refine WPS.ret ?_
      refine WPE.meth O (C := 273) (f := 256) ⟨by rfl, by rfl, by rfl, by rfl⟩ ?_
      refine WPE.name rfl ?_
      refine ⟨f, fd, _, rfl, h1, h2, by rfl, ?_⟩
      refine WPL.cons ?_; refine WPE.nameAt (by rfl) (by rfl) (by rfl) ?_; refine WPL.nil ?_
      exact Cl.op (cl_at_place x hf ok ho) (O.le (by decide))

noncomputable def IsBody (σ : List Cell) (bi lo bl sp : Nat) : Prop := ∃ bd, σ[bi]? = some (.inst 193 bd) ∧ σ[bd]? = some (.names [("name", .str "g"), ("arg_count", .int 1), ("locals", .ref lo), ("blocks", .ref bl), ("spots", .ref sp)])
noncomputable def IsC (σ : List Cell) (c bi fo be : Nat) : Prop := ∃ cd, σ[c]? = some (.inst 396 cd) ∧ σ[cd]? = some (.names [("body", .ref bi), ("followed", .ref fo), ("begins", .ref be)])
/-- the constants, their body, its types, what is followed -/
structure CB (σ : List Cell) (c bi fo be lo bl sp : Nat) (Fo : Known) : Prop where
  c : IsC σ c bi fo be
  b : IsBody σ bi lo bl sp
  lo : σ[lo]? = some (.list typesPV)
  fo : σ[fo]? = some (.dict Fo)
noncomputable def typ : Plc → PV
  | .whole l => if l = 4 then pairT else if l = 5 then refT else bytePV
  | .part _ => bytePV
noncomputable def Plc.fine : Plc → Prop
  | .whole l => 0 ≤ l ∧ l ≤ 6
  | .part k => k = 0 ∨ k = 1
theorem upto6 {l : Int} (h0 : 0 ≤ l) (h1 : l ≤ 6) : l = 0 ∨ l = 1 ∨ l = 2 ∨ l = 3 ∨ l = 4 ∨ l = 5 ∨ l = 6 := by
  obtain ⟨n, rfl⟩ := Int.eq_ofNat_of_zero_le h0
  exact (by decide : ∀ m : Fin 7, (m.val : Int) = 0 ∨ (m.val : Int) = 1 ∨ (m.val : Int) = 2 ∨ (m.val : Int) = 3 ∨ (m.val : Int) = 4 ∨ (m.val : Int) = 5 ∨ (m.val : Int) = 6) ⟨n, by omega⟩
theorem types_at {l : Int} (h0 : 0 ≤ l) (h1 : l ≤ 6) : typesPV[l.toNat]? = some (.tup [typ (.whole l), .bool true, .none]) := by
  rcases upto6 h0 h1 with rfl | rfl | rfl | rfl | rfl | rfl | rfl <;> rfl
theorem cl_type_const (x : Px) {σ : List Cell} {c : Nat} {v : Int} : Cl (GG x) 2 305 [.ref c, (Opd.const v).pv] σ fun p σ' => p = bytePV ∧ σ' = σ := by
  refine Cl.def (name := _) ["self", "operand"] rfl rfl ?_ (by decide) (by decide) ?_
  · exact fun s vs _ h => vs2 (P := fun vs => BindsTo s _ ⟨vs, []⟩ (List.zip _ vs)) h fun _ _ => BindsTo.of_eq rfl
  · intro F O hs' hc
    refine WPS.ifTagT (by rfl) (by rfl) (by rfl) (by rfl) ?_
    refine WPS.ret ?_; refine WPE.nameAt (by rfl) (by rfl) (by rfl) ?_
    exact ⟨rfl, rfl⟩
theorem cl_type_copy (x : Px) {σ : List Cell} {c bi fo be lo bl sp : Nat} {Fo : Known} (hcb : CB σ c bi fo be lo bl sp Fo) {q : Plc} (hq : q.fine) : Cl (GG x) 2 305 [.ref c, (Opd.copy q).pv] σ fun p σ' => p = typ q ∧ σ' = σ := by
  obtain ⟨⟨cd, c1, c2⟩, ⟨bd, b1, b2⟩, hlo, hfo⟩ := hcb
  refine Cl.def (name := _) ["self", "operand"] rfl rfl ?_ (by decide) (by decide) ?_
  · exact fun s vs _ h => vs2 (P := fun vs => BindsTo s _ ⟨vs, []⟩ (List.zip _ vs)) h fun _ _ => BindsTo.of_eq rfl
  · intro F O hs' hc
    cases q with
    | whole l =>
      refine WPS.ifTagF0 (by rfl) (by rfl) (by rfl) (by rfl) ?_
      refine WPS.cons ?_
      refine WPX.unpack O ?_
      refine WPE.nameAt (by rfl) (by rfl) (by rfl) ?_
      refine WPA.tup O.hh ?_
      refine WPA.name O (kof hs' rfl) ?_
      refine WPA.name O (kof hs' rfl) ?_
      refine WPS.assign O (kof hs' rfl) ?_; refine WPE.item ?_; refine WPE.item ?_; refine WPE.attr ?_; refine WPE.attr ?_; refine WPE.name rfl ?_
      refine Op1.attr O c1 c2 (by rfl) ⟨by rfl, by rfl, by rfl⟩ ?_
      refine Op1.attr O b1 b2 (by rfl) ⟨by rfl, by rfl, by rfl⟩ ?_
      refine WPE.name rfl ?_
      refine Op2.listAt hlo hq.1 (types_at hq.1 hq.2) ?_ (by have := hq.2; omega)
      refine WPE.cint ?_; refine Op2.tupAt (by rfl) (by rfl) ?_
      refine WPS.cons (WPX.for O (WPI.tup O ?_))
      refine WPE.name rfl ?_
      refine ⟨_, rfl, fun k ρ' σ' => σ' = σ ∧ List.lookup ("t" : Str) ρ' = some (typ (.whole l)), ⟨rfl, rfl⟩, fun _ _ _ _ => trivial, fun k p ρ' σ' e => by simp at e, fun ρ' σ' j => ?_⟩
      obtain ⟨rfl, j⟩ := j
      exact WPS.cons (WPX.ret (WPE.name j ⟨rfl, rfl⟩))
    | part k =>
      refine WPS.ifTagF0 (by rfl) (by rfl) (by rfl) (by rfl) ?_
      refine WPS.cons ?_
      refine WPX.unpack O ?_
      refine WPE.nameAt (by rfl) (by rfl) (by rfl) ?_
      refine WPA.tup O.hh ?_
      refine WPA.name O (kof hs' rfl) ?_
      refine WPA.name O (kof hs' rfl) ?_
      refine WPS.assign O (kof hs' rfl) ?_; refine WPE.item ?_; refine WPE.item ?_; refine WPE.attr ?_; refine WPE.attr ?_; refine WPE.name rfl ?_
      refine Op1.attr O c1 c2 (by rfl) ⟨by rfl, by rfl, by rfl⟩ ?_
      refine Op1.attr O b1 b2 (by rfl) ⟨by rfl, by rfl, by rfl⟩ ?_
      refine WPE.name rfl ?_
      refine Op2.listAt hlo (by decide) (by rfl) ?_ (by decide)
      refine WPE.cint ?_; refine Op2.tupAt (by rfl) (by rfl) ?_
      refine WPS.cons (WPX.for O (WPI.tup O ?_))
      refine WPE.name rfl ?_
      refine ⟨_, rfl, fun n ρ' σ' => σ' = σ ∧ List.lookup ("t" : Str) ρ' = some (if n = 0 then pairT else bytePV), ⟨rfl, rfl⟩, fun _ _ _ _ => trivial, fun n p ρ' σ' e j => ?_, fun ρ' σ' j => ?_⟩
      · obtain ⟨rfl, j⟩ := j
        have hn : n = 0 := by
          have := (List.getElem?_eq_some_iff.mp e).1
          simp at this; omega
        subst hn
        simp at e j
        subst e
        refine WPA.name O (kof hs' rfl) ?_
        refine WPS.ite ?_; refine WPB.bools ?_; refine WPBA.or ?_; refine WPB.nameTagNe (by rfl) (by rfl) (by rfl) ?_
        refine ⟨fun _ => ?_, fun h => by cases h⟩
        refine WPBA.or ?_; refine WPB.cmp ?_; refine WPE.item ?_
        refine WPE.name j ?_
        refine WPE.cint ?_; refine Op2.tupAt (by rfl) (by rfl) ?_; refine WPE.cstr ?_
        refine Op2.neS ⟨_, rfl, fun _ => ?_, fun h => by cases h⟩
        refine WPBA.orNil ⟨fun h => (by cases h), fun _ => ?_⟩
        refine WPS.nil ?_; refine WPS.assign O (kof hs' rfl) ?_; refine WPE.item ?_; refine WPE.item ?_
        refine WPE.name j ?_
        refine WPE.cint ?_; refine Op2.tupAt (by rfl) (by rfl) ?_; refine WPE.nameAt (by rfl) (by rfl) (by rfl) ?_
        rcases (show k = 0 ∨ k = 1 from hq) with rfl | rfl
        · refine Op2.tupAt (j := 0) (by rfl) (by rfl) ?_
          exact WPS.nil ⟨rfl, rfl⟩
        · refine Op2.tupAt (j := 1) (by rfl) (by rfl) ?_
          exact WPS.nil ⟨rfl, rfl⟩
      · obtain ⟨rfl, j⟩ := j
        exact WPS.cons (WPX.ret (WPE.name j ⟨rfl, rfl⟩))

theorem cl_type (x : Px) {σ : List Cell} {c bi fo be lo bl sp : Nat} {Fo : Known} (hcb : CB σ c bi fo be lo bl sp Fo) {o : Opd} (ho : o.ok) : Cl (GG x) 2 305 [.ref c, o.pv] σ fun p σ' => p = bytePV ∧ σ' = σ := by
  match o, ho with
  | .const v, _ => exact cl_type_const x
  | .copy (.whole l), ho =>
    have ho : (1 ≤ l ∧ l ≤ 3) ∨ l = 6 := ho
    refine (cl_type_copy x hcb (q := .whole l) ⟨by omega, by omega⟩).mono fun p σ' h => ⟨?_, h.2⟩
    rw [h.1]
    show (if l = 4 then pairT else if l = 5 then refT else bytePV) = bytePV
    rw [if_neg (by omega), if_neg (by omega)]
  | .copy (.part k), ho => exact cl_type_copy x hcb (q := .part k) ho

/-- the right side of an assignment -/
inductive Rv | use (o : Opd) | two (a b : Opd) | lend (p : Plc)
noncomputable def Rv.pv : Rv → PV
  | .use o => .tup [.str "use", o.pv]
  | .two a b => .tup [.str "tuple", .tup [a.pv, b.pv]]
  | .lend p => .tup [.str "ref", .none, .str "shared", p.pv]
noncomputable def Rv.ok : Rv → Prop
  | .use o => o.ok
  | .two a b => a.ok ∧ b.ok
  | .lend p => p.fine
noncomputable def valOf (K : Known) : Rv → PV
  | .use o => worth K o
  | .two a b => match worth K a, worth K b with
    | .int v, .int w => .tup [.int v, .int w]
    | _, _ => .none
  | .lend _ => .none
theorem lay_strs (l : List PV) (h : PyData.canLayAll0 (PV.dats l) = true) : PyData.canLayAll0 (PV.dats l) = true := h
theorem no_str {a b c : Str} (h : (b != a) = true) (h' : (c != a) = true) : ((PV.dats [.str b, .str c]).any fun y => PyData.eqv y (PV.str a).dat) = false := by
  simp [PV.dats, PV.dat, PyData.eqv]
  simp at h h'
  exact ⟨h, h'⟩
theorem lay2 {b c : Str} (h : PyData.strOk b = true) (h' : PyData.strOk c = true) : PyData.canLayAll0 (PV.dats [.str b, .str c]) = true := by
  simp [PV.dats, PV.dat, PyData.canLayAll0, PyData.canLay0]
  exact ⟨h, h'⟩
theorem cl_value_of (x : Px) {σ : List Cell} {c f kd : Nat} {K : Known} (hf : IsFacts σ f kd K) (ok : KOk K) {rv : Rv} (hr : rv.ok) : Cl (GG x) 6 310 [.ref c, rv.pv, .ref f] σ fun p σ' => p = valOf K rv ∧ Keep [] σ σ' := by
  obtain ⟨fd, h1, h2, h3⟩ := id hf
  refine Cl.defC (name := _) ["self", "rvalue", "facts"] rfl rfl ?_ (by decide) (by decide) (by decide) ?_
  · exact fun s vs _ h => vs3 (P := fun vs => BindsTo s _ ⟨vs, []⟩ (List.zip _ vs)) h fun _ _ _ => BindsTo.of_eq rfl
  · intro F O hs' hc
    cases rv with
    | use o =>
      refine WPS.assign O (kof hs' rfl) ?_; refine WPE.nameAt (by rfl) (by rfl) (by rfl) ?_; refine WPS.ifIsT (by rfl) (by rfl) ?_
      refine WPS.ret ?_
      refine WPE.meth O (C := 273) (f := 263) ⟨by rfl, by rfl, by rfl, by rfl⟩ ?_
      refine WPE.name rfl ?_
      refine ⟨f, fd, _, rfl, h1, h2, by rfl, ?_⟩
      refine WPL.cons ?_; refine WPE.nameAt (by rfl) (by rfl) (by rfl) ?_; refine WPL.nil ?_
      refine Cl.op (Cl.mono (cl_at_operand x hf ok hr) ?_) (O.le (by decide))
      rintro p σ₁ ⟨rfl, rfl⟩
      exact ⟨rfl, Keep.refl⟩
    | two a b =>
      refine WPS.assign O (kof hs' rfl) ?_; refine WPE.nameAt (by rfl) (by rfl) (by rfl) ?_; refine WPS.ifIsF0 (by rfl) (by rfl) ?_
      refine WPS.ifIsT (by rfl) (by rfl) ?_
      refine WPS.cons (WPX.compPure O [("facts", .ref f)] (fun p => worth K (unOpd p)) (kof hs' rfl) ?_ rfl rfl ?_ (freeOk hc rfl))
      rotate_left
      · intro x p e
        obtain ⟨rfl, rfl⟩ := lookup1 e
        exact ⟨rfl, rfl, by rw [kof (x := "facts") (k := .cell) hs' rfl]; intro z; cases z⟩
      refine WPI.tup O ?_
      refine WPE.nameAt (by rfl) (by rfl) (by rfl) ?_
      refine ⟨_, rfl, ⟨by simp, fun _ => trivial, fun cenv ce p hp l => ?_⟩, ?_⟩
      · have : ∃ o : Opd, o.ok ∧ p = o.pv := by
          simp only [List.mem_cons, List.not_mem_nil, or_false] at hp
          rcases hp with rfl | rfl
          · exact ⟨a, hr.1, rfl⟩
          · exact ⟨b, hr.2, rfl⟩
        obtain ⟨o, ho, rfl⟩ := this
        refine WPE.meth O (C := 273) (f := 263) ⟨by rfl, by rfl, by rfl, by rfl⟩ ?_
        refine WPE.name rfl ?_
        refine ⟨f, fd, _, rfl, get_app h1, get_app h2, by rfl, ?_⟩
        refine WPL.args (by rfl) ?_
        refine Cl.u0ps (cl_at_operand x (σ := σ ++ [.list l]) ⟨fd, get_app h1, get_app h2, get_app h3⟩ ok ho) O ?_
        exact ⟨by show _ = worth K (unOpd o.pv); rw [unOpd_pv], rfl⟩
      · simp only [List.map_cons, List.map_nil, unOpd_pv]
        have key : ∀ {wa wb : PV}, (wa = .none ∨ ∃ v : Int, wa = .int v) → (wb = .none ∨ ∃ v : Int, wb = .int v) → DV (σ ++ [Cell.list [wa, wb]]) (.ref σ.length) (.list [wa.dat, wb.dat]) ∧ PyData.canLayAll0 [wa.dat, wb.dat] = true := by
          rintro wa wb (rfl | ⟨v, rfl⟩) (rfl | ⟨w, rfl⟩) <;> exact ⟨.list getNew (.cons (.flat _ rfl) (.cons (.flat _ rfl) .nil)), rfl⟩
        obtain ⟨dv, lay⟩ := key (worth_ok ok hr.1) (worth_ok ok hr.2)
        refine WPS.ret ?_; refine WPE.ifexp ?_; refine WPB.cmp ?_; refine WPE.cnone ?_; refine WPE.name rfl ?_
        refine Op2.inList O (.flat .none rfl) dv rfl lay ⟨_, rfl, fun h => ?_, fun h => ?_⟩
        · refine WPE.cnone ?_
          refine ⟨?_, Keep.app⟩
          rcases worth_ok ok hr.1 with ea | ⟨v, ea⟩ <;> rcases worth_ok ok hr.2 with eb | ⟨w, eb⟩ <;> rw [ea, eb] at h <;> first | (simp [valOf, ea, eb]; done) | (cases h)
        · refine WPE.tcall O (kof hs' rfl) rfl rfl (by decide) ?_; refine WPL.args (by rfl) ?_
          refine OpN.tupOfList getNew (by simp) ?_
          obtain ⟨v, w, ea, eb⟩ : ∃ v w : Int, worth K a = .int v ∧ worth K b = .int w := by
            rcases worth_ok ok hr.1 with ea | ⟨v, ea⟩ <;> rcases worth_ok ok hr.2 with eb | ⟨w, eb⟩ <;> rw [ea, eb] at h <;> first | exact ⟨_, _, ea, eb⟩ | (cases h)
          exact ⟨by simp [valOf, ea, eb], Keep.app⟩
    | lend q =>
      refine WPS.assign O (kof hs' rfl) ?_; refine WPE.nameAt (by rfl) (by rfl) (by rfl) ?_; refine WPS.ifIsF0 (by rfl) (by rfl) ?_
      refine WPS.ifIsF0 (by rfl) (by rfl) ?_
      refine WPS.ite ?_; refine WPB.cmp ?_; refine WPE.name rfl ?_; refine WPE.tupArgs (by rfl) ?_
      refine Op2.inTup O (.flat _ rfl) (.flat _ rfl) (sh_str (by decide +kernel)) (lay2 (by decide +kernel) (by decide +kernel)) ⟨_, rfl, fun h => ?_, fun _ => ?_⟩
      · rw [no_str (by decide) (by decide)] at h; cases h
      refine WPS.nil ?_; refine WPS.ifIsF0 (by rfl) (by rfl) ?_
      refine WPS.ifIsF0 (by rfl) (by rfl) ?_
      refine WPS.ret ?_; refine WPE.cnone ?_
      exact ⟨rfl, Keep.refl⟩

noncomputable def lentF (Fo : Known) (l : Int) : Bool := !(dget Fo l).isSome
noncomputable def stepA (Fo K : Known) (q : Plc) (rv : Rv) : Known := match q with
  | .whole l => if (valOf K rv).isNone || lentF Fo l then ddel K l else dput (ddel K l) l (valOf K rv)
  | .part _ => ddel K 4
theorem CB.keep {S : List Nat} {σ σ' : List Cell} {c bi fo be lo bl sp : Nat} {Fo : Known} (h : CB σ c bi fo be lo bl sp Fo) (k : Keep S σ σ') (n : ∀ i ∈ S, (∀ C d, σ[i]? ≠ some (.inst C d)) ∧ (∀ l, σ[i]? ≠ some (.names l)) ∧ i ≠ lo ∧ i ≠ fo) : CB σ' c bi fo be lo bl sp Fo := by
  obtain ⟨⟨cd, c1, c2⟩, ⟨bd, b1, b2⟩, hlo, hfo⟩ := h
  exact ⟨⟨cd, k _ _ (fun q => (n _ q).1 _ _ c1) c1, k _ _ (fun q => (n _ q).2.1 _ c2) c2⟩, ⟨bd, k _ _ (fun q => (n _ q).1 _ _ b1) b1, k _ _ (fun q => (n _ q).2.1 _ b2) b2⟩, k _ _ (fun q => (n _ q).2.2.1 rfl) hlo, k _ _ (fun q => (n _ q).2.2.2 rfl) hfo⟩
theorem IsFacts.keep {S : List Nat} {σ σ' : List Cell} {f kd : Nat} {K : Known} (h : IsFacts σ f kd K) (k : Keep S σ σ') (n : ∀ i ∈ S, (∀ C d, σ[i]? ≠ some (.inst C d)) ∧ (∀ l, σ[i]? ≠ some (.names l)) ∧ i ≠ kd) : IsFacts σ' f kd K := by
  obtain ⟨fd, h1, h2, h3⟩ := h
  exact ⟨fd, k _ _ (fun q => (n _ q).1 _ _ h1) h1, k _ _ (fun q => (n _ q).2.1 _ h2) h2, k _ _ (fun q => (n _ q).2.2 rfl) h3⟩
theorem IsFacts.put {σ : List Cell} {f kd : Nat} {K K' : Known} (h : IsFacts σ f kd K) : IsFacts (σ.set kd (.dict K')) f kd K' := by
  obtain ⟨fd, h1, h2, h3⟩ := h
  refine ⟨fd, getSetNe h1 fun q => ?_, getSetNe h2 fun q => ?_, getSet h3⟩
  · rw [q, h1] at h3; cases h3
  · rw [q, h2] at h3; cases h3
theorem IsFacts.app {σ τ : List Cell} {f kd : Nat} {K : Known} (h : IsFacts σ f kd K) (k : Keep [] σ τ) : IsFacts τ f kd K := h.keep k (by simp)
theorem cl_step_assign (x : Px) {σ : List Cell} {c bi fo be lo bl sp f kd : Nat} {Fo K : Known} (hcb : CB σ c bi fo be lo bl sp Fo) (hf : IsFacts σ f kd K) (ok : KOk K) (hkf : kd ≠ fo) (hkl : kd ≠ lo) {q : Plc} {rv : Rv} (hr : rv.ok) :
    Cl (GG x) 8 338 [.ref c, .tup [.str "assign", q.pv, rv.pv], .ref f] σ fun _ σ' => IsFacts σ' f kd (stepA Fo K q rv) ∧ Keep [kd] σ σ' := by
  obtain ⟨fd, h1, h2, h3⟩ := id hf
  refine Cl.def (name := _) ["self", "statement", "facts"] rfl rfl ?_ (by decide) (by decide) ?_
  · exact fun s vs _ h => vs3 (P := fun vs => BindsTo s _ ⟨vs, []⟩ (List.zip _ vs)) h fun _ _ _ => BindsTo.of_eq rfl
  · intro F O hs' hc
    refine WPS.ifTagT (by rfl) (by rfl) (by rfl) (by rfl) ?_
    refine WPS.cons ?_
    refine WPX.swap O ["place", "rvalue"] ?_ (by unfold swappedStores Env.blockKind Env.kindOf; rw [hs']; rfl) (by intro x hx; simp at hx; rcases hx with rfl | rfl <;> exact kof hs' rfl)
    refine WPE.tuple ?_; refine WPL.cons ?_; refine WPE.nameAt (by rfl) (by rfl) (by rfl) ?_; refine WPL.cons ?_; refine WPE.nameAt (by rfl) (by rfl) (by rfl) ?_; refine WPL.nil ?_
    refine ⟨by simp, _, rfl, rfl, ?_⟩
    refine WPS.assign O (kof hs' rfl) ?_
    obtain ⟨cd, c1, c2⟩ := hcb.c
    refine WPE.meth O (C := 396) (f := 310) ⟨by rfl, by rfl, by rfl, by rfl⟩ ?_
    refine WPE.name rfl ?_
    refine ⟨c, cd, _, rfl, c1, c2, by rfl, ?_⟩
    refine WPL.args (by rfl) ?_
    refine Cl.u0pr (cl_value_of x hf ok hr) O ?_
    rintro σ₁ k₁
    have hf₁ := hf.app k₁
    have hcb₁ := hcb.keep k₁ (by simp)
    clear c1 c2 h1 h2 h3 fd cd
    obtain ⟨fd, h1, h2, h3⟩ := id hf₁
    obtain ⟨cd, c1, c2⟩ := hcb₁.c
    refine WPS.cons (WPX.expr ?_ (notInter O))
    refine WPE.meth O (C := 273) (f := 270) ⟨by rfl, by rfl, by rfl, by rfl⟩ ?_
    refine WPE.name rfl ?_
    refine ⟨f, fd, _, rfl, h1, h2, by rfl, ?_⟩
    refine WPL.args (by rfl) ?_
    refine Cl.u0s (cl_forget x hf₁ (by have := ok.len; omega) q) O ?_
    rintro p
    have hf₂ := hf₁.put (K' := ddel K q.loc)
    have kk : Keep [kd] σ (σ₁.set kd (.dict (ddel K q.loc))) := (k₁.up (by simp)).trans (Keep.set (by simp))
    obtain ⟨fd', g1, g2, g3⟩ := id hf₂
    refine WPS.ite ?_; refine WPB.bools ?_; refine WPBA.and ?_; refine WPB.cmp ?_; refine WPE.name rfl ?_; refine WPE.cnone ?_
    refine Op2.notNone ⟨_, rfl, fun hv => ?_, fun hv => ?_⟩
    · cases q with
      | part k =>
        refine WPBA.and ?_; refine WPB.cmp ?_; refine WPE.nameAt (by rfl) (by rfl) (by rfl) ?_; refine WPE.tuple ?_; refine WPL.nil ?_
        refine ⟨by simp, ?_⟩
        refine Op2.eqD O (.flat _ rfl) (.flat _ rfl) (sh_field k) rfl ⟨_, rfl, fun h => (by cases h), fun _ => ⟨fun h => (by cases h), fun _ => ?_⟩⟩
        exact WPS.nil (WPS.nil (WPS.nil ⟨hf₂, kk⟩))
      | whole l =>
        refine WPBA.and ?_; refine WPB.cmp ?_; refine WPE.nameAt (by rfl) (by rfl) (by rfl) ?_; refine WPE.tuple ?_; refine WPL.nil ?_
        refine ⟨by simp, ?_⟩
        refine Op2.eqD O (.flat _ rfl) (.flat _ rfl) rfl rfl ⟨_, rfl, fun _ => ?_, fun h => by cases h⟩
        refine WPBA.and ?_; refine WPB.cmp ?_; refine WPE.nameAt (by rfl) (by rfl) (by rfl) ?_; refine WPE.attr ?_; refine WPE.name rfl ?_
        have cne : ∀ {i : Nat} {d : Cell}, σ₁[i]? = some d → (∀ l, d ≠ .dict l) → (σ₁.set kd (.dict (ddel K (Plc.whole l).loc)))[i]? = some d := fun e n => getSetNe e fun z => by rw [z, e] at h3; cases h3; exact n _ rfl
        refine Op1.attr O (cne c1 (by intro l z; cases z)) (cne c2 (by intro l z; cases z)) (by rfl) ⟨by rfl, by rfl, by rfl⟩ ?_
        refine Op2.inDict (getSetNe hcb₁.fo hkf) ⟨_, rfl, fun h => ?_, fun h => ?_⟩
        · refine WPBA.andNil ⟨fun _ => ?_, fun h => by cases h⟩
          refine WPS.cons ?_; refine WPX.setItem ?_; refine WPE.name rfl ?_; refine WPE.attr ?_; refine WPE.name rfl ?_
          refine Op1.attr O g1 g2 (by rfl) ⟨by rfl, by rfl, by rfl⟩ ?_
          refine WPE.nameAt (by rfl) (by rfl) (by rfl) ?_
          refine OpU.dset g3 (by have := (ok.del (l := l)).len; show (ddel K l).length ≤ 1000; omega) ?_
          refine WPS.nil (WPS.nil (WPS.nil ⟨?_, kk.trans (Keep.set (by simp))⟩))
          have e : stepA Fo K (.whole l) rv = dput (ddel K l) l (valOf K rv) := by
            show (if (valOf K rv).isNone || lentF Fo l then _ else _) = _
            rw [if_neg]
            simp [lentF, h]
            simpa using hv
          rw [e]
          exact hf₂.put
        · refine ⟨fun h => (by cases h), fun _ => ?_⟩
          refine WPS.nil (WPS.nil (WPS.nil ⟨?_, kk⟩))
          have e : stepA Fo K (.whole l) rv = ddel K l := by
            show (if (valOf K rv).isNone || lentF Fo l then _ else _) = _
            rw [if_pos]
            simp [lentF, h]
          rw [e]
          exact hf₂
    · refine ⟨fun h => (by cases h), fun _ => ?_⟩
      refine WPS.nil (WPS.nil (WPS.nil ⟨?_, kk⟩))
      have e : stepA Fo K q rv = ddel K q.loc := by
        cases q with
        | part k => rfl
        | whole l =>
          show (if (valOf K rv).isNone || lentF Fo l then _ else _) = _
          rw [if_pos]
          · rfl
          · have : (valOf K rv).isNone = true := by simpa using hv
            simp [this]
      rw [e]
      exact hf₂
theorem step_use {Fo K : Known} (ok : KOk K) {q : Plc} {o : Opd} (ho : o.ok) : stepA Fo K q (.use o) = step (lentF Fo) K (.use q o) := by
  cases q with
  | part k => rfl
  | whole l =>
    rcases worth_ok ok ho with e | ⟨v, e⟩
    · simp [stepA, step, valOf, e, PV.isNone]
    · simp [stepA, step, valOf, e, PV.isNone]
theorem step_two {Fo K : Known} (ok : KOk K) {a b : Opd} (ha : a.ok) (hb : b.ok) : stepA Fo K (.whole 4) (.two a b) = step (lentF Fo) K (.two a b) := by
  rcases worth_ok ok ha with e | ⟨v, e⟩ <;> rcases worth_ok ok hb with e' | ⟨w, e'⟩ <;> simp [stepA, step, valOf, e, e', PV.isNone]
theorem step_lend {Fo K : Known} {q : Plc} : stepA Fo K (.whole 5) (.lend q) = step (lentF Fo) K (.lend q) := rfl
theorem lend_fine {q : Plc} (h : (Row.lend q).ok) : q.fine := by
  cases q with
  | whole l => have h : l = 2 ∨ l = 3 := h; exact ⟨by omega, by omega⟩
  | part k => exact h
theorem cl_step (x : Px) {σ : List Cell} {c bi fo be lo bl sp f kd : Nat} {Fo K : Known} (hcb : CB σ c bi fo be lo bl sp Fo) (hf : IsFacts σ f kd K) (ok : KOk K) (hkf : kd ≠ fo) (hkl : kd ≠ lo) {r : Row} (hr : r.ok) :
    Cl (GG x) 8 338 [.ref c, r.pv, .ref f] σ fun _ σ' => IsFacts σ' f kd (step (lentF Fo) K r) ∧ Keep [kd] σ σ' := by
  cases r with
  | use q o => rw [← step_use ok hr.2]; exact cl_step_assign x hcb hf ok hkf hkl (q := q) (rv := .use o) hr.2
  | two a b => rw [← step_two ok hr.1 hr.2]; exact cl_step_assign x hcb hf ok hkf hkl (q := .whole 4) (rv := .two a b) hr
  | lend q => rw [← step_lend]; exact cl_step_assign x hcb hf ok hkf hkl (q := .whole 5) (rv := .lend q) (lend_fine hr)
  | print o =>
    refine Cl.def (name := _) ["self", "statement", "facts"] rfl rfl ?_ (by decide) (by decide) ?_
    · exact fun s vs _ h => vs3 (P := fun vs => BindsTo s _ ⟨vs, []⟩ (List.zip _ vs)) h fun _ _ _ => BindsTo.of_eq rfl
    · intro F O hs' hc
      refine WPS.ifTagF (by rfl) (by rfl) (by rfl) (by rfl) ?_
      refine WPS.ite ?_; refine WPB.cmp ?_; refine WPE.nameAt (by rfl) (by rfl) (by rfl) ?_; refine WPE.tupArgs (by rfl) ?_
      refine Op2.inTup O (.flat (.str "print") rfl) (.flat _ rfl) (sh_str (by decide +kernel)) (lay2 (by decide +kernel) (by decide +kernel)) ⟨_, rfl, fun h => ?_, fun _ => ?_⟩
      · rw [no_str (by decide) (by decide)] at h; cases h
      exact WPS.nil (WPS.nil (WPS.nil ⟨hf, Keep.refl⟩))
  | mark lv l =>
    refine Cl.def (name := _) ["self", "statement", "facts"] rfl rfl ?_ (by decide) (by decide) ?_
    · exact fun s vs _ h => vs3 (P := fun vs => BindsTo s _ ⟨vs, []⟩ (List.zip _ vs)) h fun _ _ _ => BindsTo.of_eq rfl
    · intro F O hs' hc
      obtain ⟨fd, h1, h2, h3⟩ := id hf
      refine WPS.ifTag (by rfl) (by rfl) (by rfl) ?_
      refine ⟨fun h => (by cases lv <;> cases h), fun _ => ?_⟩
      refine WPS.ite ?_; refine WPB.cmp ?_; refine WPE.nameAt (by rfl) (by rfl) (by rfl) ?_; refine WPE.tupArgs (by rfl) ?_
      refine Op2.inTup O (.flat (.str (if lv then "live" else "dead")) rfl) (.flat _ rfl) (sh_str (by cases lv <;> decide +kernel)) (lay2 (by decide +kernel) (by decide +kernel)) ⟨_, rfl, fun _ => ?_, fun h => ?_⟩
      · refine WPS.cons (WPX.expr ?_ (notInter O))
        refine WPE.meth O (C := 273) (f := 270) ⟨by rfl, by rfl, by rfl, by rfl⟩ ?_
        refine WPE.name rfl ?_
        refine ⟨f, fd, _, rfl, h1, h2, by rfl, ?_⟩
        refine WPL.cons ?_; refine WPE.tuple ?_; refine WPL.cons ?_; refine WPE.nameAt (by rfl) (by rfl) (by rfl) ?_; refine WPL.cons ?_; refine WPE.tuple ?_; refine WPL.nil ?_
        refine ⟨by simp, WPL.nil ⟨by simp, WPL.nil ?_⟩⟩
        refine Cl.u0s (cl_forget x hf (by have := ok.len; omega) (.whole l)) O ?_
        rintro p
        exact WPS.nil (WPS.nil (WPS.nil ⟨hf.put, Keep.set (by simp)⟩))
      · exfalso
        cases lv <;> revert h <;> simp [PV.dats, PV.dat, PyData.eqv]

theorem cl_known_target (x : Px) {σ : List Cell} {c : Nat} {e : End} {pf : PV} : Cl (GG x) 2 357 [.ref c, e.pv, pf] σ fun p σ' => p = .none ∧ σ' = σ := by
  cases e <;>
  · refine Cl.def (name := _) ["self", "terminator", "facts"] rfl rfl ?_ (by decide) (by decide) ?_
    · exact fun s vs _ h => vs3 (P := fun vs => BindsTo s _ ⟨vs, []⟩ (List.zip _ vs)) h fun _ _ _ => BindsTo.of_eq rfl
    · intro F O hs' hc
      refine WPS.ifTagF0 (by rfl) (by rfl) (by rfl) (by rfl) ?_
      refine WPS.ite ?_; refine WPB.bools ?_; refine WPBA.and ?_; refine WPB.nameTag (by rfl) (by rfl) (by rfl) ?_
      refine ⟨fun h => (by cases h), fun _ => ⟨fun h => (by cases h), fun _ => ?_⟩⟩
      refine WPS.nil ?_; refine WPS.ret ?_; refine WPE.cnone ?_
      exact ⟨rfl, rfl⟩
theorem cl_put (x : Px) {σ : List Cell} {c bi fo be lo bl sp f kd : Nat} {Fo K : Known} (hcb : CB σ c bi fo be lo bl sp Fo) (hf : IsFacts σ f kd K) (ok : KOk K) {o : Opd} (ho : o.ok) : Cl (GG x) 6 376 [.ref c, o.pv, .ref f] σ fun p σ' => p = (told K o).pv ∧ σ' = σ := by
  obtain ⟨fd, h1, h2, h3⟩ := id hf
  obtain ⟨cd, c1, c2⟩ := hcb.c
  refine Cl.def (name := _) ["self", "operand", "facts"] rfl rfl ?_ (by decide) (by decide) ?_
  · exact fun s vs _ h => vs3 (P := fun vs => BindsTo s _ ⟨vs, []⟩ (List.zip _ vs)) h fun _ _ _ => BindsTo.of_eq rfl
  · intro F O hs' hc
    cases o with
    | const v =>
      refine WPS.ifTagT (by rfl) (by rfl) (by rfl) (by rfl) ?_
      refine WPS.ret ?_; refine WPE.name rfl ?_
      exact ⟨rfl, rfl⟩
    | copy q =>
      refine WPS.ifTagF0 (by rfl) (by rfl) (by rfl) (by rfl) ?_
      refine WPS.cons ?_
      refine WPX.swap O ["value", "t"] ?_ (by unfold swappedStores Env.blockKind Env.kindOf; rw [hs']; rfl) (by intro x hx; simp at hx; rcases hx with rfl | rfl <;> exact kof hs' rfl)
      refine WPE.tuple ?_; refine WPL.cons ?_
      refine WPE.meth O (C := 273) (f := 263) ⟨by rfl, by rfl, by rfl, by rfl⟩ ?_
      refine WPE.name rfl ?_
      refine ⟨f, fd, _, rfl, h1, h2, by rfl, ?_⟩
      refine WPL.args (by rfl) ?_
      refine Cl.u0ps (cl_at_operand x hf ok ho) O ?_
      refine WPL.cons ?_
      refine WPE.meth O (C := 396) (f := 305) ⟨by rfl, by rfl, by rfl, by rfl⟩ ?_
      refine WPE.name rfl ?_
      refine ⟨c, cd, _, rfl, c1, c2, by rfl, ?_⟩
      refine WPL.args (by rfl) ?_
      refine Cl.u0ps (cl_type x hcb ho) O ?_
      refine WPL.nil ⟨by simp, _, rfl, rfl, ?_⟩
      refine WPS.ret ?_; refine WPE.ifexp ?_; refine WPB.bools ?_; refine WPBA.or ?_; refine WPB.cmp ?_; refine WPE.name rfl ?_; refine WPE.cnone ?_
      rcases worth_ok ok ho with ew | ⟨v, ew⟩
      · rw [ew]
        refine Op2.isNone ⟨_, rfl, fun h => (by cases h), fun _ => ⟨fun _ => ?_, fun h => by cases h⟩⟩
        refine WPE.name rfl ?_
        exact ⟨by rw [told_none ew], rfl⟩
      · rw [ew]
        refine Op2.isNone ⟨_, rfl, fun _ => ?_, fun h => by cases h⟩
        refine WPBA.or ?_; refine WPB.cmp ?_; refine WPE.name rfl ?_; refine WPE.cnone ?_
        refine Op2.isNone ⟨_, rfl, fun _ => ?_, fun h => by cases h⟩
        refine WPBA.or ?_; refine WPB.cmp ?_; refine WPE.nameAt (by rfl) (by rfl) (by rfl) ?_
        refine WPE.gname O (kof hs' rfl) rfl (fun m as s I => vr_plain x O m as s I) ?_
        refine Op2.notInTup O (.flat (.str "int") rfl) (.flat plainPV rfl) (sh_str (by decide +kernel)) (in_plain (a := "int") (by decide +kernel)) ⟨_, rfl, fun _ => ?_, fun h => ?_⟩
        · refine WPBA.orNil ⟨fun h => (by cases h), fun _ => ?_⟩
          refine WPE.tuple ?_; refine WPL.args (by rfl) ?_
          exact ⟨by simp, by rw [told_int ew]; rfl, rfl⟩
        · exact absurd h (by decide +kernel)

theorem cl_operands_use (x : Px) {σ : List Cell} {o : Opd} : Cl (GG x) 2 214 [(Rv.use o).pv] σ fun p σ' => p = .ref σ.length ∧ σ' = σ ++ [.list [o.pv]] := by
  refine Cl.def (name := _) ["rvalue"] rfl rfl ?_ (by decide) (by decide) ?_
  · exact fun s vs _ h => vs1 (P := fun vs => BindsTo s _ ⟨vs, []⟩ (List.zip _ vs)) h fun _ => BindsTo.of_eq rfl
  · intro F O hs' hc
    refine WPS.assign O (kof hs' rfl) ?_; refine WPE.nameAt (by rfl) (by rfl) (by rfl) ?_; refine WPS.ite ?_; refine WPB.cmp ?_; refine WPE.name rfl ?_; refine WPE.tupArgs (by rfl) ?_
    refine Op2.inTup O (.flat _ rfl) (.flat _ rfl) (sh_str (by decide +kernel)) (lay2 (by decide +kernel) (by decide +kernel)) ⟨_, rfl, fun _ => ?_, fun h => absurd h (by decide +kernel)⟩
    refine WPS.ret ?_; refine WPE.list ?_; refine WPL.cons ?_; refine WPE.nameAt (by rfl) (by rfl) (by rfl) ?_; refine WPL.nil ?_
    exact ⟨by simp, rfl, rfl⟩
theorem cl_operands_two (x : Px) {σ : List Cell} {a b : Opd} : Cl (GG x) 2 214 [(Rv.two a b).pv] σ fun p σ' => p = .ref σ.length ∧ σ' = σ ++ [.list [a.pv, b.pv]] := by
  refine Cl.def (name := _) ["rvalue"] rfl rfl ?_ (by decide) (by decide) ?_
  · exact fun s vs _ h => vs1 (P := fun vs => BindsTo s _ ⟨vs, []⟩ (List.zip _ vs)) h fun _ => BindsTo.of_eq rfl
  · intro F O hs' hc
    refine WPS.assign O (kof hs' rfl) ?_; refine WPE.nameAt (by rfl) (by rfl) (by rfl) ?_; refine WPS.ite ?_; refine WPB.cmp ?_; refine WPE.name rfl ?_; refine WPE.tupArgs (by rfl) ?_
    refine Op2.inTup O (.flat _ rfl) (.flat _ rfl) (sh_str (by decide +kernel)) (lay2 (by decide +kernel) (by decide +kernel)) ⟨_, rfl, fun h => absurd h (by decide +kernel), fun _ => ?_⟩
    refine WPS.nil ?_; refine WPS.ite ?_; refine WPB.cmp ?_; refine WPE.name rfl ?_; refine WPE.tupArgs (by rfl) ?_
    refine Op2.inTup O (.flat _ rfl) (.flat _ rfl) (sh_str (by decide +kernel)) (lay2 (by decide +kernel) (by decide +kernel)) ⟨_, rfl, fun h => absurd h (by decide +kernel), fun _ => ?_⟩
    refine WPS.nil ?_; refine WPS.ifIsF0 (by rfl) (by rfl) ?_
    refine WPS.ifIsF0 (by rfl) (by rfl) ?_
    refine WPS.ite ?_; refine WPB.cmp ?_; refine WPE.name rfl ?_; refine WPE.tupArgs (by rfl) ?_
    refine Op2.inTup O (.flat _ rfl) (.flat _ rfl) (sh_str (by decide +kernel)) (lay2 (by decide +kernel) (by decide +kernel)) ⟨_, rfl, fun _ => ?_, fun h => absurd h (by decide +kernel)⟩
    refine WPS.ret ?_; refine WPE.tcall O (kof hs' rfl) rfl rfl (by decide) ?_; refine WPL.cons ?_; refine WPE.nameAt (by rfl) (by rfl) (by rfl) ?_; refine WPL.nil ?_
    exact OpN.listOfTup (by simp) ⟨rfl, rfl⟩
theorem cl_operands_lend (x : Px) {σ : List Cell} {q : Plc} : Cl (GG x) 2 214 [(Rv.lend q).pv] σ fun p σ' => p = .ref σ.length ∧ σ' = σ ++ [.list []] := by
  refine Cl.def (name := _) ["rvalue"] rfl rfl ?_ (by decide) (by decide) ?_
  · exact fun s vs _ h => vs1 (P := fun vs => BindsTo s _ ⟨vs, []⟩ (List.zip _ vs)) h fun _ => BindsTo.of_eq rfl
  · intro F O hs' hc
    refine WPS.assign O (kof hs' rfl) ?_; refine WPE.nameAt (by rfl) (by rfl) (by rfl) ?_; refine WPS.ite ?_; refine WPB.cmp ?_; refine WPE.name rfl ?_; refine WPE.tupArgs (by rfl) ?_
    refine Op2.inTup O (.flat _ rfl) (.flat _ rfl) (sh_str (by decide +kernel)) (lay2 (by decide +kernel) (by decide +kernel)) ⟨_, rfl, fun h => absurd h (by decide +kernel), fun _ => ?_⟩
    refine WPS.nil ?_; refine WPS.ite ?_; refine WPB.cmp ?_; refine WPE.name rfl ?_; refine WPE.tupArgs (by rfl) ?_
    refine Op2.inTup O (.flat _ rfl) (.flat _ rfl) (sh_str (by decide +kernel)) (lay2 (by decide +kernel) (by decide +kernel)) ⟨_, rfl, fun h => absurd h (by decide +kernel), fun _ => ?_⟩
    refine WPS.nil ?_; refine WPS.ifIsF0 (by rfl) (by rfl) ?_
    refine WPS.ifIsF0 (by rfl) (by rfl) ?_
    refine WPS.ite ?_; refine WPB.cmp ?_; refine WPE.name rfl ?_; refine WPE.tupArgs (by rfl) ?_
    refine Op2.inTup O (.flat _ rfl) (.flat _ rfl) (sh_str (by decide +kernel)) (lay2 (by decide +kernel) (by decide +kernel)) ⟨_, rfl, fun h => absurd h (by decide +kernel), fun _ => ?_⟩
    refine WPS.nil ?_; refine WPS.ret ?_; refine WPE.ifexp ?_; refine WPB.nameIs (by rfl) ?_
    refine ⟨fun h => (by cases h), fun _ => ?_⟩
    refine WPE.list ?_; refine WPL.nil ?_
    exact ⟨by simp, rfl, rfl⟩
theorem cl_with_use (x : Px) {σ : List Cell} {o : Opd} {j : Nat} {p : PV} (hj : σ[j]? = some (.list [p])) : Cl (GG x) 2 221 [(Rv.use o).pv, .ref j] σ fun r σ' => r = .tup [.str "use", p] ∧ σ' = σ := by
  refine Cl.def (name := _) ["rvalue", "operands"] rfl rfl ?_ (by decide) (by decide) ?_
  · exact fun s vs _ h => vs2 (P := fun vs => BindsTo s _ ⟨vs, []⟩ (List.zip _ vs)) h fun _ _ => BindsTo.of_eq rfl
  · intro F O hs' hc
    refine WPS.assign O (kof hs' rfl) ?_; refine WPE.nameAt (by rfl) (by rfl) (by rfl) ?_; refine WPS.ite ?_; refine WPB.cmp ?_; refine WPE.name rfl ?_; refine WPE.tupArgs (by rfl) ?_
    refine Op2.inTup O (.flat _ rfl) (.flat _ rfl) (sh_str (by decide +kernel)) (lay2 (by decide +kernel) (by decide +kernel)) ⟨_, rfl, fun _ => ?_, fun h => absurd h (by decide +kernel)⟩
    refine WPS.ret ?_; refine WPE.tuple ?_; refine WPL.consN (by rfl) ?_; refine WPL.cons ?_; refine WPE.item ?_; refine WPE.name rfl ?_; refine WPE.cint ?_; refine Op2.listAt hj (by decide) (by rfl) ?_ (by decide); refine WPL.nil ?_
    exact ⟨by simp, rfl, rfl⟩
theorem cl_with_two (x : Px) {σ : List Cell} {a b : Opd} {j : Nat} {p q : PV} (hj : σ[j]? = some (.list [p, q])) : Cl (GG x) 2 221 [(Rv.two a b).pv, .ref j] σ fun r σ' => r = .tup [.str "tuple", .tup [p, q]] ∧ σ' = σ := by
  refine Cl.def (name := _) ["rvalue", "operands"] rfl rfl ?_ (by decide) (by decide) ?_
  · exact fun s vs _ h => vs2 (P := fun vs => BindsTo s _ ⟨vs, []⟩ (List.zip _ vs)) h fun _ _ => BindsTo.of_eq rfl
  · intro F O hs' hc
    refine WPS.assign O (kof hs' rfl) ?_; refine WPE.nameAt (by rfl) (by rfl) (by rfl) ?_; refine WPS.ite ?_; refine WPB.cmp ?_; refine WPE.name rfl ?_; refine WPE.tupArgs (by rfl) ?_
    refine Op2.inTup O (.flat _ rfl) (.flat _ rfl) (sh_str (by decide +kernel)) (lay2 (by decide +kernel) (by decide +kernel)) ⟨_, rfl, fun h => absurd h (by decide +kernel), fun _ => ?_⟩
    refine WPS.nil ?_; refine WPS.ite ?_; refine WPB.cmp ?_; refine WPE.name rfl ?_; refine WPE.tupArgs (by rfl) ?_
    refine Op2.inTup O (.flat _ rfl) (.flat _ rfl) (sh_str (by decide +kernel)) (lay2 (by decide +kernel) (by decide +kernel)) ⟨_, rfl, fun h => absurd h (by decide +kernel), fun _ => ?_⟩
    refine WPS.nil ?_; refine WPS.ifIsF0 (by rfl) (by rfl) ?_
    refine WPS.ifIsF0 (by rfl) (by rfl) ?_
    refine WPS.ite ?_; refine WPB.cmp ?_; refine WPE.name rfl ?_; refine WPE.tupArgs (by rfl) ?_
    refine Op2.inTup O (.flat _ rfl) (.flat _ rfl) (sh_str (by decide +kernel)) (lay2 (by decide +kernel) (by decide +kernel)) ⟨_, rfl, fun _ => ?_, fun h => absurd h (by decide +kernel)⟩
    refine WPS.ret ?_; refine WPE.tuple ?_; refine WPL.consN (by rfl) ?_; refine WPL.cons ?_; refine WPE.tcall O (kof hs' rfl) rfl rfl (by decide) ?_; refine WPL.args (by rfl) ?_
    exact OpN.tupOfList hj (by simp) (WPL.nil ⟨by simp, rfl, rfl⟩)
theorem cl_with_lend (x : Px) {σ : List Cell} {q : Plc} {j : Nat} : Cl (GG x) 2 221 [(Rv.lend q).pv, .ref j] σ fun r σ' => r = (Rv.lend q).pv ∧ σ' = σ := by
  refine Cl.def (name := _) ["rvalue", "operands"] rfl rfl ?_ (by decide) (by decide) ?_
  · exact fun s vs _ h => vs2 (P := fun vs => BindsTo s _ ⟨vs, []⟩ (List.zip _ vs)) h fun _ _ => BindsTo.of_eq rfl
  · intro F O hs' hc
    refine WPS.assign O (kof hs' rfl) ?_; refine WPE.nameAt (by rfl) (by rfl) (by rfl) ?_; refine WPS.ite ?_; refine WPB.cmp ?_; refine WPE.name rfl ?_; refine WPE.tupArgs (by rfl) ?_
    refine Op2.inTup O (.flat _ rfl) (.flat _ rfl) (sh_str (by decide +kernel)) (lay2 (by decide +kernel) (by decide +kernel)) ⟨_, rfl, fun h => absurd h (by decide +kernel), fun _ => ?_⟩
    refine WPS.nil ?_; refine WPS.ite ?_; refine WPB.cmp ?_; refine WPE.name rfl ?_; refine WPE.tupArgs (by rfl) ?_
    refine Op2.inTup O (.flat _ rfl) (.flat _ rfl) (sh_str (by decide +kernel)) (lay2 (by decide +kernel) (by decide +kernel)) ⟨_, rfl, fun h => absurd h (by decide +kernel), fun _ => ?_⟩
    refine WPS.nil ?_; refine WPS.ifIsF0 (by rfl) (by rfl) ?_
    refine WPS.ifIsF0 (by rfl) (by rfl) ?_
    refine WPS.ite ?_; refine WPB.cmp ?_; refine WPE.name rfl ?_; refine WPE.tupArgs (by rfl) ?_
    refine Op2.inTup O (.flat _ rfl) (.flat _ rfl) (sh_str (by decide +kernel)) (lay2 (by decide +kernel) (by decide +kernel)) ⟨_, rfl, fun h => absurd h (by decide +kernel), fun _ => ?_⟩
    refine WPS.nil ?_; refine WPS.ret ?_; refine WPE.ifexp ?_; refine WPB.nameIs (by rfl) ?_
    refine ⟨fun h => (by cases h), fun _ => ?_⟩
    refine WPE.name rfl ?_
    exact ⟨rfl, rfl⟩

noncomputable def madeRv (K : Known) : Rv → Rv
  | .use o => .use (told K o)
  | .two a b => .two (told K a) (told K b)
  | .lend p => .lend p
noncomputable def fits (q : Plc) : Rv → Prop
  | .use _ => typ q = bytePV
  | .two _ _ => typ q = pairT
  | .lend _ => True
theorem lookup2 {y z x : Str} {q r p : PV} (e : List.lookup x [(y, q), (z, r)] = some p) : (x = y ∧ p = q) ∨ (x = z ∧ p = r) := by
  rw [List.lookup_cons] at e
  by_cases h : x = y
  · subst h; simp at e; exact .inl ⟨rfl, e.symm⟩
  · rw [show (x == y) = false from by simpa using h] at e; exact .inr (lookup1 e)
theorem WPB.mono {G : GX} {F : FX} {env : Env} {ρ : PEnv} {σ : List Cell} {e : Expr} {Q Q' : Bool → List Cell → Prop} (h : WPB G F env ρ σ e Q) (k : ∀ b σ', Q b σ' → Q' b σ') : WPB G F env ρ σ e Q' := fun m as s I R =>
  wpm (h m as s I R) fun _ _ ⟨σ', as', I', S', q⟩ => ⟨σ', as', I', S', k _ _ q⟩
theorem CB.app {σ τ : List Cell} {c bi fo be lo bl sp : Nat} {Fo : Known} (h : CB σ c bi fo be lo bl sp Fo) (k : Keep [] σ τ) : CB τ c bi fo be lo bl sp Fo := h.keep k (by simp)
theorem cl_put_rvalue (x : Px) {σ : List Cell} {c bi fo be lo bl sp f kd : Nat} {Fo K : Known} (hcb : CB σ c bi fo be lo bl sp Fo) (hf : IsFacts σ f kd K) (ok : KOk K) {q : Plc} {rv : Rv} (hr : rv.ok) (hq : q.fine) (hqr : fits q rv) :
    Cl (GG x) 8 381 [.ref c, rv.pv, q.pv, .ref f] σ fun p σ' => p = (madeRv K rv).pv ∧ Keep [] σ σ' := by
  refine Cl.defC (name := _) ["self", "rvalue", "place", "facts"] rfl rfl ?_ (by decide) (by decide) (by decide) ?_
  · exact fun s vs _ h => vs4 (P := fun vs => BindsTo s _ ⟨vs, []⟩ (List.zip _ vs)) h fun _ _ _ _ => BindsTo.of_eq rfl
  · intro F O hs' hc
    refine WPS.assign O (kof hs' rfl) ?_
    obtain ⟨cd, c1, c2⟩ := hcb.c
    refine WPE.meth O (C := 396) (f := 310) ⟨by rfl, by rfl, by rfl, by rfl⟩ ?_
    refine WPE.name rfl ?_
    refine ⟨c, cd, _, rfl, c1, c2, by rfl, ?_⟩
    refine WPL.args (by rfl) ?_
    refine Cl.u0pr (cl_value_of x hf ok hr) O ?_
    rintro σ₁ k₁
    have hf₁ := hf.app k₁
    have hcb₁ := hcb.app k₁
    clear c1 c2 cd hf hcb
    obtain ⟨cd, c1, c2⟩ := hcb₁.c
    refine WPS.assign O (kof hs' rfl) ?_
    refine WPE.meth O (C := 396) (f := 305) ⟨by rfl, by rfl, by rfl, by rfl⟩ ?_
    refine WPE.name rfl ?_
    refine ⟨c, cd, _, rfl, c1, c2, by rfl, ?_⟩
    refine WPL.cons ?_; refine WPE.tuple ?_; refine WPL.args (by rfl) ?_
    refine ⟨by simp, WPL.nil ?_⟩
    refine Cl.op (Cl.mono (cl_type_copy x hcb₁ hq) ?_) (O.le (by decide))
    rintro p σ₂ ⟨rfl, rfl⟩
    refine WPS.ite ?_
    cases rv with
    | use o =>
      have hqr : typ q = bytePV := hqr
      rw [hqr]
      rcases worth_ok ok hr with ew | ⟨v, ew⟩
      · rw [show valOf K (.use o) = .none from ew]
        refine WPB.bools ?_; refine WPBA.and ?_; refine WPB.cmp ?_; refine WPE.name rfl ?_; refine WPE.cnone ?_
        refine Op2.notNone ⟨_, rfl, fun h => (by cases h), fun _ => ⟨fun h => (by cases h), fun _ => ?_⟩⟩
        refine WPS.nil ?_; refine WPS.ret ?_; refine WPE.call O (fa := 221) (kof hs' rfl) rfl rfl ?_; refine WPL.consN (by rfl) ?_; refine WPL.cons ?_
        refine WPE.compPure O [("self", .ref c), ("facts", .ref f)] (fun p => (told K (unOpd p)).pv) ?_ rfl rfl ?_ (freeOk hc rfl)
        rotate_left
        · intro x p e
          rcases lookup2 e with ⟨rfl, rfl⟩ | ⟨rfl, rfl⟩
          · exact ⟨rfl, rfl, by rw [kof (x := "self") (k := .cell) hs' rfl]; intro z; cases z⟩
          · exact ⟨rfl, rfl, by rw [kof (x := "facts") (k := .cell) hs' rfl]; intro z; cases z⟩
        refine WPI.list O ?_
        refine WPE.call O (fa := 214) (kof hs' rfl) rfl rfl ?_; refine WPL.args (by rfl) ?_
        refine Cl.op (Cl.mono (cl_operands_use x) ?_) (O.le (by decide))
        rintro p σ₃ ⟨rfl, rfl⟩
        refine ⟨_, _, rfl, getNew, ⟨by simp, fun l => get_app getNew, fun cenv ce p hp l => ?_⟩, ?_⟩
        · rw [List.mem_singleton.mp hp]
          have kk : Keep [] σ₂ (σ₂ ++ [Cell.list [o.pv]] ++ [.list l]) := Keep.app.trans Keep.app
          refine WPE.meth O (C := 396) (f := 376) ⟨by rfl, by rfl, by rfl, by rfl⟩ ?_
          refine WPE.name rfl ?_
          refine ⟨c, cd, _, rfl, get_app (get_app c1), get_app (get_app c2), by rfl, ?_⟩
          refine WPL.args (by rfl) ?_
          refine Cl.op (Cl.mono (cl_put x (hcb₁.app kk) (hf₁.app kk) ok hr) ?_) (O.le (by decide))
          rintro p σ₁ ⟨rfl, rfl⟩
          exact ⟨by show _ = (told K (unOpd o.pv)).pv; rw [unOpd_pv], rfl⟩
        · refine WPL.nil ?_
          simp only [List.map_cons, List.map_nil, unOpd_pv]
          refine Cl.op (Cl.mono (cl_with_use x (o := o) getNew) ?_) (O.le (by decide))
          rintro p σ₄ ⟨rfl, rfl⟩
          exact ⟨rfl, k₁.trans (Keep.app.trans Keep.app)⟩
      · rw [show valOf K (.use o) = .int v from ew]
        refine WPB.bools ?_; refine WPBA.and ?_; refine WPB.cmp ?_; refine WPE.name rfl ?_; refine WPE.cnone ?_
        refine Op2.notNone ⟨_, rfl, fun _ => ?_, fun h => by cases h⟩
        refine WPBA.and ?_; refine WPB.cmp ?_; refine WPE.name rfl ?_; refine WPE.cnone ?_
        refine Op2.notNone ⟨_, rfl, fun _ => ?_, fun h => by cases h⟩
        refine WPBA.and ?_; refine WPB.cmp ?_; refine WPE.nameAt (by rfl) (by rfl) (by rfl) ?_
        refine WPE.gname O (kof hs' rfl) rfl (fun m as s I => vr_plain x O m as s I) ?_
        refine Op2.inTup O (.flat (.str "int") rfl) (.flat plainPV rfl) (sh_str (by decide +kernel)) (in_plain (a := "int") (by decide +kernel)) ⟨_, rfl, fun _ => ?_, fun h => absurd h (by decide +kernel)⟩
        refine WPBA.andNil ⟨fun _ => ?_, fun h => by cases h⟩
        refine WPS.ret ?_; refine WPE.tuple ?_; refine WPL.cons ?_; refine WPE.cstr ?_; refine WPL.cons ?_; refine WPE.tuple ?_; refine WPL.args (by rfl) ?_
        refine ⟨by simp, WPL.nil ⟨by simp, ?_, k₁⟩⟩
        show _ = (Rv.use (told K o)).pv
        rw [told_int ew]; rfl
    | two a b =>
      have hqr : typ q = pairT := hqr
      rw [hqr]
      refine WPB.mono (Q := fun b σ' => b = false ∧ σ' = σ₂) ?_ ?_
      · refine WPB.bools ?_; refine WPBA.and ?_; refine WPB.cmp ?_; refine WPE.name rfl ?_; refine WPE.cnone ?_
        refine Op2.notNone ⟨_, rfl, fun _ => ?_, fun h => ⟨rfl, rfl⟩⟩
        refine WPBA.and ?_; refine WPB.cmp ?_; refine WPE.name rfl ?_; refine WPE.cnone ?_
        refine Op2.notNone ⟨_, rfl, fun _ => ?_, fun h => by cases h⟩
        refine WPBA.and ?_; refine WPB.cmp ?_; refine WPE.nameAt (by rfl) (by rfl) (by rfl) ?_
        refine WPE.gname O (kof hs' rfl) rfl (fun m as s I => vr_plain x O m as s I) ?_
        refine Op2.inTup O (.flat (.str "tuple") rfl) (.flat plainPV rfl) (sh_str (by decide +kernel)) (in_plain (a := "int") (by decide +kernel)) ⟨_, rfl, fun h => absurd h (by decide +kernel), fun _ => ⟨rfl, rfl⟩⟩
      rintro b σ₃ ⟨rfl, e3⟩
      subst e3
      refine ⟨fun h => (by cases h), fun _ => ?_⟩
      refine WPS.nil ?_; refine WPS.ret ?_; refine WPE.call O (fa := 221) (kof hs' rfl) rfl rfl ?_; refine WPL.consN (by rfl) ?_; refine WPL.cons ?_
      refine WPE.compPure O [("self", .ref c), ("facts", .ref f)] (fun p => (told K (unOpd p)).pv) ?_ rfl rfl ?_ (freeOk hc rfl)
      rotate_left
      · intro x p e
        rcases lookup2 e with ⟨rfl, rfl⟩ | ⟨rfl, rfl⟩
        · exact ⟨rfl, rfl, by rw [kof (x := "self") (k := .cell) hs' rfl]; intro z; cases z⟩
        · exact ⟨rfl, rfl, by rw [kof (x := "facts") (k := .cell) hs' rfl]; intro z; cases z⟩
      refine WPI.list O ?_
      refine WPE.call O (fa := 214) (kof hs' rfl) rfl rfl ?_; refine WPL.args (by rfl) ?_
      refine Cl.op (Cl.mono (cl_operands_two x) ?_) (O.le (by decide))
      rintro p σ₃ ⟨rfl, rfl⟩
      refine ⟨_, _, rfl, getNew, ⟨by simp, fun l => get_app getNew, fun cenv ce p hp l => ?_⟩, ?_⟩
      · have : ∃ o : Opd, o.ok ∧ p = o.pv := by
          simp only [List.mem_cons, List.not_mem_nil, or_false] at hp
          rcases hp with rfl | rfl
          · exact ⟨a, hr.1, rfl⟩
          · exact ⟨b, hr.2, rfl⟩
        obtain ⟨o, ho, rfl⟩ := this
        have kk : Keep [] σ₃ (σ₃ ++ [Cell.list [a.pv, b.pv]] ++ [.list l]) := Keep.app.trans Keep.app
        refine WPE.meth O (C := 396) (f := 376) ⟨by rfl, by rfl, by rfl, by rfl⟩ ?_
        refine WPE.name rfl ?_
        refine ⟨c, cd, _, rfl, get_app (get_app c1), get_app (get_app c2), by rfl, ?_⟩
        refine WPL.args (by rfl) ?_
        refine Cl.u0ps (cl_put x (hcb₁.app kk) (hf₁.app kk) ok ho) O ?_
        exact ⟨by show _ = (told K (unOpd o.pv)).pv; rw [unOpd_pv], rfl⟩
      · refine WPL.nil ?_
        simp only [List.map_cons, List.map_nil, unOpd_pv]
        refine Cl.op (Cl.mono (cl_with_two x (a := a) (b := b) getNew) ?_) (O.le (by decide))
        rintro p σ₄ ⟨rfl, rfl⟩
        exact ⟨rfl, k₁.trans (Keep.app.trans Keep.app)⟩
    | lend q' =>
      rw [show valOf K (.lend q') = .none from rfl]
      refine WPB.bools ?_; refine WPBA.and ?_; refine WPB.cmp ?_; refine WPE.name rfl ?_; refine WPE.cnone ?_
      refine Op2.notNone ⟨_, rfl, fun h => (by cases h), fun _ => ⟨fun h => (by cases h), fun _ => ?_⟩⟩
      refine WPS.nil ?_; refine WPS.ret ?_; refine WPE.call O (fa := 221) (kof hs' rfl) rfl rfl ?_; refine WPL.consN (by rfl) ?_; refine WPL.cons ?_
      refine WPE.compPure O [("self", .ref c), ("facts", .ref f)] (fun p => p) ?_ rfl rfl ?_ (freeOk hc rfl)
      rotate_left
      · intro x p e
        rcases lookup2 e with ⟨rfl, rfl⟩ | ⟨rfl, rfl⟩
        · exact ⟨rfl, rfl, by rw [kof (x := "self") (k := .cell) hs' rfl]; intro z; cases z⟩
        · exact ⟨rfl, rfl, by rw [kof (x := "facts") (k := .cell) hs' rfl]; intro z; cases z⟩
      refine WPI.list O ?_
      refine WPE.call O (fa := 214) (kof hs' rfl) rfl rfl ?_; refine WPL.args (by rfl) ?_
      refine Cl.u0ps (cl_operands_lend x) O ?_
      refine ⟨_, _, rfl, getNew, ⟨by simp, fun l => get_app getNew, fun cenv ce p hp l => by cases hp⟩, ?_⟩
      refine WPL.nil ?_
      refine Cl.u0ps (cl_with_lend x) O ?_
      exact ⟨rfl, k₁.trans (Keep.app.trans Keep.app)⟩

noncomputable def Row.rv : Row → Option (Plc × Rv)
  | .use q o => some (q, .use o)
  | .two a b => some (.whole 4, .two a b)
  | .lend q => some (.whole 5, .lend q)
  | _ => none
theorem made_rv {K : Known} {r : Row} {q : Plc} {rv : Rv} (h : r.rv = some (q, rv)) : r.pv = .tup [.str "assign", q.pv, rv.pv] ∧ (made K r).pv = .tup [.str "assign", q.pv, (madeRv K rv).pv] := by
  cases r <;> simp [Row.rv] at h <;> obtain ⟨rfl, rfl⟩ := h <;> exact ⟨rfl, rfl⟩
theorem rv_ok {r : Row} {q : Plc} {rv : Rv} (h : r.rv = some (q, rv)) (hr : r.ok) : rv.ok ∧ q.fine ∧ fits q rv := by
  cases r with
  | use q' o =>
    simp [Row.rv] at h; obtain ⟨rfl, rfl⟩ := h
    refine ⟨hr.2, ?_⟩
    cases q' with
    | whole l =>
      have h : l = 2 ∨ l = 3 ∨ l = 6 := hr.1
      refine ⟨⟨by omega, by omega⟩, ?_⟩
      rcases h with rfl | rfl | rfl <;> rfl
    | part k => exact ⟨hr.1, rfl⟩
  | two a b =>
    simp [Row.rv] at h; obtain ⟨rfl, rfl⟩ := h
    exact ⟨hr, ⟨by decide, by decide⟩, rfl⟩
  | lend q' =>
    simp [Row.rv] at h; obtain ⟨rfl, rfl⟩ := h
    exact ⟨lend_fine hr, ⟨by decide, by decide⟩, trivial⟩
  | print o => simp [Row.rv] at h
  | mark lv l => simp [Row.rv] at h
theorem cl_put_assign (x : Px) {σ : List Cell} {c bi fo be lo bl sp f kd : Nat} {Fo K : Known} (hcb : CB σ c bi fo be lo bl sp Fo) (hf : IsFacts σ f kd K) (ok : KOk K) {q : Plc} {rv : Rv} (hr : rv.ok) (hq : q.fine) (hqr : fits q rv) :
    Cl (GG x) 10 388 [.ref c, .tup [.str "assign", q.pv, rv.pv], .ref f] σ fun p σ' => p = .tup [.str "assign", q.pv, (madeRv K rv).pv] ∧ Keep [] σ σ' := by
  refine Cl.def (name := _) ["self", "statement", "facts"] rfl rfl ?_ (by decide) (by decide) ?_
  · exact fun s vs _ h => vs3 (P := fun vs => BindsTo s _ ⟨vs, []⟩ (List.zip _ vs)) h fun _ _ _ => BindsTo.of_eq rfl
  · intro F O hs' hc
    refine WPS.ifTagT (by rfl) (by rfl) (by rfl) (by rfl) ?_
    refine WPS.ret ?_; refine WPE.tuple ?_; refine WPL.cons ?_; refine WPE.cstr ?_; refine WPL.cons ?_; refine WPE.nameAt (by rfl) (by rfl) (by rfl) ?_; refine WPL.cons ?_
    obtain ⟨cd, c1, c2⟩ := hcb.c
    refine WPE.meth O (C := 396) (f := 381) ⟨by rfl, by rfl, by rfl, by rfl⟩ ?_
    refine WPE.name rfl ?_
    refine ⟨c, cd, _, rfl, c1, c2, by rfl, ?_⟩
    refine WPL.cons ?_; refine WPE.nameAt (by rfl) (by rfl) (by rfl) ?_; refine WPL.cons ?_; refine WPE.nameAt (by rfl) (by rfl) (by rfl) ?_; refine WPL.args (by rfl) ?_
    refine Cl.u0pr (cl_put_rvalue x hcb hf ok hr hq hqr) O ?_
    rintro σ₁ k₁
    exact WPL.nil ⟨by simp, rfl, k₁⟩
theorem cl_put_statement (x : Px) {σ : List Cell} {c bi fo be lo bl sp f kd : Nat} {Fo K : Known} (hcb : CB σ c bi fo be lo bl sp Fo) (hf : IsFacts σ f kd K) (ok : KOk K) {r : Row} (hr : r.ok) :
    Cl (GG x) 10 388 [.ref c, r.pv, .ref f] σ fun p σ' => p = (made K r).pv ∧ Keep [] σ σ' := by
  cases e : r.rv with
  | some qr =>
    obtain ⟨q, rv⟩ := qr
    obtain ⟨e1, e2⟩ := made_rv (K := K) e
    obtain ⟨g1, g2, g3⟩ := rv_ok e hr
    rw [e1, e2]
    exact cl_put_assign x hcb hf ok g1 g2 g3
  | none =>
    cases r with
    | use => simp [Row.rv] at e
    | two => simp [Row.rv] at e
    | lend => simp [Row.rv] at e
    | print o =>
      refine Cl.def (name := _) ["self", "statement", "facts"] rfl rfl ?_ (by decide) (by decide) ?_
      · exact fun s vs _ h => vs3 (P := fun vs => BindsTo s _ ⟨vs, []⟩ (List.zip _ vs)) h fun _ _ _ => BindsTo.of_eq rfl
      · intro F O hs' hc
        refine WPS.ifTagF0 (by rfl) (by rfl) (by rfl) (by rfl) ?_
        refine WPS.ifTagT (by rfl) (by rfl) (by rfl) (by rfl) ?_
        refine WPS.ret ?_; refine WPE.tuple ?_; refine WPL.cons ?_; refine WPE.cstr ?_; refine WPL.cons ?_
        obtain ⟨cd, c1, c2⟩ := hcb.c
        refine WPE.meth O (C := 396) (f := 376) ⟨by rfl, by rfl, by rfl, by rfl⟩ ?_
        refine WPE.name rfl ?_
        refine ⟨c, cd, _, rfl, c1, c2, by rfl, ?_⟩
        refine WPL.cons ?_; refine WPE.nameAt (by rfl) (by rfl) (by rfl) ?_; refine WPL.args (by rfl) ?_
        refine Cl.u0ps (cl_put x hcb hf ok hr) O ?_
        exact WPL.nil ⟨by simp, rfl, Keep.refl⟩
    | mark lv l =>
      refine Cl.def (name := _) ["self", "statement", "facts"] rfl rfl ?_ (by decide) (by decide) ?_
      · exact fun s vs _ h => vs3 (P := fun vs => BindsTo s _ ⟨vs, []⟩ (List.zip _ vs)) h fun _ _ _ => BindsTo.of_eq rfl
      · intro F O hs' hc
        refine WPS.ifTag (by rfl) (by rfl) (by rfl) ?_
        refine ⟨fun h => (by cases lv <;> cases h), fun _ => ?_⟩
        refine WPS.nil ?_; refine WPS.ifTag (by rfl) (by rfl) (by rfl) ?_
        refine ⟨fun h => (by cases lv <;> cases h), fun _ => ?_⟩
        refine WPS.nil ?_; refine WPS.ret ?_; refine WPE.name rfl ?_
        exact ⟨rfl, Keep.refl⟩

noncomputable def endMade (K : Known) : End → End
  | .call o p n => .call (told K o) p n
  | e => e
noncomputable def End.okE : End → Prop
  | .call o p _ => o.ok ∧ p.ok
  | .drop p _ => p.ok
  | _ => True
theorem cl_put_end (x : Px) {σ : List Cell} {c bi fo be lo bl sp f kd : Nat} {Fo K : Known} (hcb : CB σ c bi fo be lo bl sp Fo) (hf : IsFacts σ f kd K) (ok : KOk K) {e : End} (he : e.okE) :
    Cl (GG x) 8 393 [.ref c, e.pv, .ref f] σ fun p σ' => p = (endMade K e).pv ∧ Keep [] σ σ' := by
  refine Cl.defC (name := _) ["self", "terminator", "facts"] rfl rfl ?_ (by decide) (by decide) (by decide) ?_
  · exact fun s vs _ h => vs3 (P := fun vs => BindsTo s _ ⟨vs, []⟩ (List.zip _ vs)) h fun _ _ _ => BindsTo.of_eq rfl
  · intro F O hs' hc
    obtain ⟨cd, c1, c2⟩ := hcb.c
    refine WPS.assign O (kof hs' rfl) ?_
    refine WPE.meth O (C := 396) (f := 357) ⟨by rfl, by rfl, by rfl, by rfl⟩ ?_
    refine WPE.name rfl ?_
    refine ⟨c, cd, _, rfl, c1, c2, by rfl, ?_⟩
    refine WPL.args (by rfl) ?_
    refine Cl.op (Cl.mono (cl_known_target x) ?_) (O.le (by decide))
    rintro p σ₁ ⟨rfl, rfl⟩
    refine WPS.ite ?_; refine WPB.cmp ?_; refine WPE.name rfl ?_; refine WPE.cnone ?_
    refine Op2.notNone ⟨_, rfl, fun h => (by cases h), fun _ => ?_⟩
    refine WPS.nil ?_; refine WPS.ite ?_; refine WPB.cmp ?_
    cases e with
    | goto n =>
      refine WPE.nameAt (by rfl) (by rfl) (by rfl) ?_; refine WPE.tupArgs (by rfl) ?_
      refine Op2.inTup O (.flat (.str "goto") rfl) (.flat _ rfl) (sh_str (by decide +kernel)) (lay2 (by decide +kernel) (by decide +kernel)) ⟨_, rfl, fun h => absurd h (by decide +kernel), fun _ => ?_⟩
      refine WPS.nil ?_; refine WPS.ifTagF0 (by rfl) (by rfl) (by rfl) (by rfl) ?_
      refine WPS.ret ?_; refine WPE.name rfl ?_
      exact ⟨rfl, Keep.refl⟩
    | ret =>
      refine WPE.nameAt (by rfl) (by rfl) (by rfl) ?_; refine WPE.tupArgs (by rfl) ?_
      refine Op2.inTup O (.flat (.str "return") rfl) (.flat _ rfl) (sh_str (by decide +kernel)) (lay2 (by decide +kernel) (by decide +kernel)) ⟨_, rfl, fun h => absurd h (by decide +kernel), fun _ => ?_⟩
      refine WPS.nil ?_; refine WPS.ifTagF0 (by rfl) (by rfl) (by rfl) (by rfl) ?_
      refine WPS.ret ?_; refine WPE.name rfl ?_
      exact ⟨rfl, Keep.refl⟩
    | drop q n =>
      refine WPE.nameAt (by rfl) (by rfl) (by rfl) ?_; refine WPE.tupArgs (by rfl) ?_
      refine Op2.inTup O (.flat (.str "drop") rfl) (.flat _ rfl) (sh_str (by decide +kernel)) (lay2 (by decide +kernel) (by decide +kernel)) ⟨_, rfl, fun h => absurd h (by decide +kernel), fun _ => ?_⟩
      refine WPS.nil ?_; refine WPS.ifTagF0 (by rfl) (by rfl) (by rfl) (by rfl) ?_
      refine WPS.ret ?_; refine WPE.name rfl ?_
      exact ⟨rfl, Keep.refl⟩
    | call o q n =>
      refine WPE.nameAt (by rfl) (by rfl) (by rfl) ?_; refine WPE.tupArgs (by rfl) ?_
      refine Op2.inTup O (.flat (.str "call") rfl) (.flat _ rfl) (sh_str (by decide +kernel)) (lay2 (by decide +kernel) (by decide +kernel)) ⟨_, rfl, fun h => absurd h (by decide +kernel), fun _ => ?_⟩
      refine WPS.nil ?_; refine WPS.ifTagT (by rfl) (by rfl) (by rfl) (by rfl) ?_
      refine WPS.assign O (kof hs' rfl) ?_; refine WPE.tcall O (kof hs' rfl) rfl rfl (by decide) ?_; refine WPL.cons ?_
      refine WPE.compPure O [("self", .ref c), ("facts", .ref f)] (fun p => (told K (unOpd p)).pv) ?_ rfl rfl ?_ (freeOk hc rfl)
      rotate_left
      · intro x p e
        rcases lookup2 e with ⟨rfl, rfl⟩ | ⟨rfl, rfl⟩
        · exact ⟨rfl, rfl, by rw [kof (x := "self") (k := .cell) hs' rfl]; intro z; cases z⟩
        · exact ⟨rfl, rfl, by rw [kof (x := "facts") (k := .cell) hs' rfl]; intro z; cases z⟩
      refine WPI.tup O ?_
      refine WPE.nameAt (by rfl) (by rfl) (by rfl) ?_
      refine ⟨_, rfl, ⟨by simp, fun _ => trivial, fun cenv ce p hp l => ?_⟩, ?_⟩
      · rw [List.mem_singleton.mp hp]
        refine WPE.meth O (C := 396) (f := 376) ⟨by rfl, by rfl, by rfl, by rfl⟩ ?_
        refine WPE.name rfl ?_
        refine ⟨c, cd, _, rfl, get_app c1, get_app c2, by rfl, ?_⟩
        refine WPL.args (by rfl) ?_
        refine Cl.u0ps (cl_put x (hcb.app Keep.app) (hf.app Keep.app) ok he.1) O ?_
        exact ⟨by show _ = (told K (unOpd o.pv)).pv; rw [unOpd_pv], rfl⟩
      · refine WPL.nil ?_
        simp only [List.map_cons, List.map_nil, unOpd_pv]
        refine OpN.tupOfList getNew (by simp) ?_
        refine WPS.ret ?_; refine WPE.bin ?_; refine WPE.tuple ?_; refine WPL.cons ?_; refine WPE.nameAt (by rfl) (by rfl) (by rfl) ?_; refine WPL.cons ?_; refine WPE.nameAt (by rfl) (by rfl) (by rfl) ?_; refine WPL.args (by rfl) ?_
        refine ⟨by simp, ?_⟩
        refine WPE.tcall O (kof hs' rfl) rfl rfl (by decide) ?_; refine WPL.cons ?_
        refine WPE.tupFrom (k := 3) ?_
        refine WPE.name rfl ?_
        refine ⟨_, rfl, by decide, by simp, by simp, ?_⟩
        refine WPL.nil ?_
        refine OpN.tupOfTup ?_
        exact Op2.addT (by simp) ⟨rfl, Keep.app⟩

noncomputable def succ : End → List Int
  | .goto n => [n]
  | .call _ _ n => [n]
  | .drop _ n => [n]
  | .ret => []
theorem WPX.monoN {G : GX} {F : FX} {ρ : PEnv} {σ : List Cell} {st : Stmt} {N N' : PEnv → List Cell → Prop} {Rt : PV → List Cell → Prop} (h : WPX G F ρ σ st N Rt) (k : ∀ ρ' σ', N ρ' σ' → N' ρ' σ') : WPX G F ρ σ st N' Rt := fun m as s I R =>
  wpm (h m as s I R) fun fl s' H => by
    obtain ⟨m', σ', as', I', S', q⟩ := H
    refine ⟨m', σ', as', I', S', ?_⟩
    cases fl with
    | next => obtain ⟨ρ', R', q⟩ := q; exact ⟨ρ', R', k _ _ q⟩
    | ret v => exact q
    | brk => exact q
    | cont => exact q
theorem cl_succ (x : Px) {σ : List Cell} {e : End} : Cl (GG x) 2 202 [e.pv] σ fun p σ' => ∃ j, p = .ref j ∧ σ.length ≤ j ∧ σ'[j]? = some (.list (intsPV (succ e))) ∧ Keep [] σ σ' := by
  refine Cl.def (name := _) ["terminator"] rfl rfl ?_ (by decide) (by decide) ?_
  · exact fun s vs _ h => vs1 (P := fun vs => BindsTo s _ ⟨vs, []⟩ (List.zip _ vs)) h fun _ => BindsTo.of_eq rfl
  · intro F O hs' hc
    refine WPS.cons (WPX.monoN (N := fun ρ' σ' => σ' = σ ∧ ρ' = [(("word" : Str), PV.str (match e with | .goto _ => "goto" | .call _ _ _ => "call" | .drop _ _ => "drop" | .ret => "return")), (("terminator" : Str), e.pv)]) ?_ ?_)
    · cases e <;>
      · refine WPX.assign O (kof hs' rfl) ?_; refine WPE.nameAt (by rfl) (by rfl) (by rfl) ?_
        exact ⟨rfl, rfl⟩
    rintro ρ' σ' ⟨rfl, rfl⟩
    refine WPS.cons (WPX.monoN (N := fun ρ' σ₁ => ∃ j, List.lookup ("told" : Str) ρ' = some (.ref j) ∧ List.lookup ("block" : Str) ρ' = none ∧ σ₁[j]? = some (.list (intsPV (succ e))) ∧ σ₁ = σ' ++ [.list (intsPV (succ e))]) ?_ ?_)
    · cases e with
      | goto n =>
        refine WPX.ite ?_; refine WPB.nameIs (by rfl) ?_
        refine ⟨fun _ => ?_, fun h => by cases h⟩
        refine WPS.assign O (kof hs' rfl) ?_; refine WPE.list ?_; refine WPL.cons ?_; refine WPE.nameAt (by rfl) (by rfl) (by rfl) ?_; refine WPL.nil ?_
        refine ⟨by simp, WPS.nil ⟨_, rfl, rfl, getNew, rfl⟩⟩
      | call o q n =>
        refine WPX.ite ?_; refine WPB.nameIs (by rfl) ?_
        refine ⟨fun h => (by cases h), fun _ => ?_⟩
        refine WPS.ifIsF (by rfl) (by rfl) ?_
        refine WPS.ifIsT (by rfl) (by rfl) ?_
        refine WPS.assign O (kof hs' rfl) ?_; refine WPE.list ?_; refine WPL.cons ?_; refine WPE.nameAt (by rfl) (by rfl) (by rfl) ?_; refine WPL.nil ?_
        refine ⟨by simp, WPS.nil (WPS.nil (WPS.nil ⟨_, rfl, rfl, getNew, rfl⟩))⟩
      | drop q n =>
        refine WPX.ite ?_; refine WPB.nameIs (by rfl) ?_
        refine ⟨fun h => (by cases h), fun _ => ?_⟩
        refine WPS.ifIsF (by rfl) (by rfl) ?_
        refine WPS.ifIsF (by rfl) (by rfl) ?_
        refine WPS.ifIsT (by rfl) (by rfl) ?_
        refine WPS.assign O (kof hs' rfl) ?_; refine WPE.list ?_; refine WPL.cons ?_; refine WPE.nameAt (by rfl) (by rfl) (by rfl) ?_; refine WPL.nil ?_
        refine ⟨by simp, WPS.nil (WPS.nil (WPS.nil (WPS.nil ⟨_, rfl, rfl, getNew, rfl⟩)))⟩
      | ret =>
        refine WPX.ite ?_; refine WPB.nameIs (by rfl) ?_
        refine ⟨fun h => (by cases h), fun _ => ?_⟩
        refine WPS.ifIsF (by rfl) (by rfl) ?_
        refine WPS.ifIsF (by rfl) (by rfl) ?_
        refine WPS.ifIsF (by rfl) (by rfl) ?_
        refine WPS.ifIsF (by rfl) (by rfl) ?_
        refine WPS.assign O (kof hs' rfl) ?_; refine WPE.list ?_; refine WPL.nil ?_
        refine ⟨by simp, WPS.nil (WPS.nil (WPS.nil (WPS.nil (WPS.nil ⟨_, rfl, rfl, getNew, rfl⟩))))⟩
    rintro ρ' σ₁ ⟨j, hj, hb, hl, e1⟩
    have k₁ : Keep [] σ' σ₁ := by rw [e1]; exact Keep.app
    have le : σ'.length ≤ σ₁.length := by rw [e1]; simp
    have jl := (List.getElem?_eq_some_iff.mp hl).1
    clear e1
    refine WPS.assign O (kof hs' rfl) ?_; refine WPE.list0 ?_
    refine WPS.cons (WPX.forS O (WPI.list O (WPE.name hj ⟨j, _, rfl, get_app hl, fun k σ₂ => σ₂ = σ₁ ++ [.list (intsPV ((succ e).take k))], ?_, ?_, ?_, ?_⟩)))
    · simp [intsPV]
    · rintro k σ₂ rfl; exact get_app hl
    · rintro k p σ₂ ek rfl
      refine WPA.name O (kof hs' rfl) ?_
      have h1 : ∃ n, succ e = [n] ∧ k = 0 ∧ p = .int n := by
        have hk := (List.getElem?_eq_some_iff.mp ek).1
        cases e <;> simp [succ, intsPV] at hk ek ⊢
        all_goals (subst hk; simp at ek; exact ⟨rfl, ek.symm⟩)
      obtain ⟨n, es, rfl, rfl⟩ := h1
      rw [es]
      refine WPS.ite ?_; refine WPB.bools ?_; refine WPBA.and ?_; refine WPB.cmp ?_; refine WPE.name rfl ?_; refine WPE.cnone ?_
      refine Op2.notNone ⟨_, rfl, fun _ => ?_, fun h => by cases h⟩
      refine WPBA.and ?_; refine WPB.cmp ?_; refine WPE.name rfl ?_; refine WPE.name rfl ?_
      refine Op2.notInList O (.flat _ rfl) (dv_ints (L := []) getNew) rfl rfl ⟨_, rfl, fun _ => ?_, fun h => by cases h⟩
      refine WPBA.andNil ⟨fun _ => ?_, fun h => by cases h⟩
      refine WPS.cons ?_; refine WPX.expr ?_ (notInter O); refine WPE.bmeth (T := "list") PySem.F.plainAttrs_list PySem.F.slot_list_append PySem.F.type_list_append (.inl rfl) ?_; refine WPE.name rfl ?_
      refine ⟨_, _, rfl, getNew, rfl, ?_⟩
      refine WPL.args (by rfl) ?_
      refine OpN.append getNew (by simp [intsPV]) ?_
      refine WPS.nil (WPS.nil ⟨Sub.cons hb Sub.refl, ?_⟩)
      rw [set_last]; rfl
    · rintro σ₂ rfl
      refine WPS.ret ?_; refine WPE.name rfl ?_
      refine ⟨_, rfl, le, ?_, k₁.trans Keep.app⟩
      rw [getNew]
      simp [intsPV]

/-- the blocks of a Body: lists of a list of rows and an end -/
noncomputable def BB (σ : List Cell) (bl : Nat) (bs : List Blk) : Prop := ∃ ks : List Nat, ks.length = bs.length ∧ σ[bl]? = some (.list (ks.map PV.ref)) ∧ ∀ (t k : Nat) (b : Blk), ks[t]? = some k → bs[t]? = some b → σ[k]? = some (.list [.ref b.1, b.2.2.pv]) ∧ σ[b.1]? = some (.list (b.2.1.map Row.pv))
theorem BB.at {σ : List Cell} {bl : Nat} {bs : List Blk} (h : BB σ bl bs) {t : Nat} {b : Blk} (e : bs[t]? = some b) : ∃ ks k, σ[bl]? = some (.list ks) ∧ ks[t]? = some (.ref k) ∧ σ[k]? = some (.list [.ref b.1, b.2.2.pv]) ∧ σ[b.1]? = some (.list (b.2.1.map Row.pv)) := by
  obtain ⟨ks, hl, h1, h2⟩ := h
  have ht : t < ks.length := by rw [hl]; exact (List.getElem?_eq_some_iff.mp e).1
  have ek := List.getElem?_eq_getElem ht
  obtain ⟨g1, g2⟩ := h2 t _ b ek e
  exact ⟨_, _, h1, by rw [List.getElem?_map, ek]; rfl, g1, g2⟩
noncomputable def isList : Cell → Bool
  | .list _ => true
  | _ => false
theorem BB.keep {S : List Nat} {σ σ' : List Cell} {bl : Nat} {bs : List Blk} (h : BB σ bl bs) (k : Keep S σ σ') (n : ∀ i ∈ S, ∀ l, σ[i]? ≠ some (.list l)) : BB σ' bl bs := by
  obtain ⟨ks, hl, h1, h2⟩ := h
  refine ⟨ks, hl, k _ _ (fun q => n _ q _ h1) h1, fun t i b e e' => ?_⟩
  obtain ⟨g1, g2⟩ := h2 t i b e e'
  exact ⟨k _ _ (fun q => n _ q _ g1) g1, k _ _ (fun q => n _ q _ g2) g2⟩
noncomputable def endK (K : Known) : End → Known
  | .call _ p _ => ddel K p.loc
  | .drop p _ => ddel K p.loc
  | _ => K
theorem cl_gone_on (x : Px) {σ : List Cell} {c bi fo be lo bl sp f kd t : Nat} {Fo K : Known} {bs : List Blk} {b : Blk} (hcb : CB σ c bi fo be lo bl sp Fo) (hf : IsFacts σ f kd K) (hK : K.length ≤ 100) (hkf : kd ≠ fo) (hkl : kd ≠ lo) (hb : BB σ bl bs) (e : bs[t]? = some b) (ht : t < 1000) :
    Cl (GG x) 6 350 [.ref c, .int t, .ref f] σ fun p σ' => ∃ j, p = .ref j ∧ σ.length ≤ j ∧ σ'[j]? = some (.list ((succ b.2.2).map fun n => .tup [.int n, .ref kd])) ∧ IsFacts σ' f kd (endK K b.2.2) ∧ Keep [kd] σ σ' := by
  obtain ⟨fd, h1, h2, h3⟩ := id hf
  obtain ⟨cd, c1, c2⟩ := hcb.c
  obtain ⟨bd, b1, b2⟩ := hcb.b
  obtain ⟨ks, k, g1, g2, g3, g4⟩ := hb.at e
  obtain ⟨rk, rs, en⟩ := b
  refine Cl.defC (name := _) ["self", "number", "facts"] rfl rfl ?_ (by decide) (by decide) (by decide) ?_
  · exact fun s vs _ h => vs3 (P := fun vs => BindsTo s _ ⟨vs, []⟩ (List.zip _ vs)) h fun _ _ _ => BindsTo.of_eq rfl
  · intro F O hs' hc
    refine WPS.assign O (kof hs' rfl) ?_; refine WPE.item ?_; refine WPE.item ?_; refine WPE.attr ?_; refine WPE.attr ?_; refine WPE.name rfl ?_
    refine Op1.attr O c1 c2 (by rfl) ⟨by rfl, by rfl, by rfl⟩ ?_
    refine Op1.attr O b1 b2 (by rfl) ⟨by rfl, by rfl, by rfl⟩ ?_
    refine WPE.name rfl ?_
    refine Op2.listAt g1 (by omega) g2 ?_ (by omega)
    refine WPE.cint ?_; refine Op2.listAt g3 (by decide) (by rfl) ?_ (by decide)
    refine WPS.cons (WPX.monoN (N := fun ρ' σ' => ρ' = [(("terminator" : Str), en.pv), ("self", .ref c), ("number", .int t), ("facts", .ref f)] ∧ σ' = (match en with | .call _ p _ => σ.set kd (.dict (ddel K p.loc)) | _ => σ)) ?_ ?_)
    · cases en with
      | goto n =>
        refine WPX.ite ?_; refine WPB.nameTag (by rfl) (by rfl) (by rfl) ?_
        refine ⟨fun h => (by cases h), fun _ => ?_⟩
        exact WPS.nil ⟨rfl, rfl⟩
      | ret =>
        refine WPX.ite ?_; refine WPB.nameTag (by rfl) (by rfl) (by rfl) ?_
        refine ⟨fun h => (by cases h), fun _ => ?_⟩
        exact WPS.nil ⟨rfl, rfl⟩
      | drop q n =>
        refine WPX.ite ?_; refine WPB.nameTag (by rfl) (by rfl) (by rfl) ?_
        refine ⟨fun h => (by cases h), fun _ => ?_⟩
        exact WPS.nil ⟨rfl, rfl⟩
      | call o q n =>
        refine WPX.ite ?_; refine WPB.nameTag (by rfl) (by rfl) (by rfl) ?_
        refine ⟨fun _ => ?_, fun h => by cases h⟩
        refine WPS.cons (WPX.expr ?_ (notInter O))
        refine WPE.meth O (C := 273) (f := 270) ⟨by rfl, by rfl, by rfl, by rfl⟩ ?_
        refine WPE.name rfl ?_
        refine ⟨f, fd, _, rfl, h1, h2, by rfl, ?_⟩
        refine WPL.cons ?_; refine WPE.nameAt (by rfl) (by rfl) (by rfl) ?_; refine WPL.nil ?_
        refine Cl.op (Cl.mono (cl_forget x hf hK q) ?_) (O.le (by decide))
        rintro p σ₂ rfl
        exact WPS.nil ⟨rfl, rfl⟩
    rintro ρ' σ₁ ⟨rfl, e1⟩
    refine WPS.cons (WPX.monoN (N := fun ρ' σ' => ρ' = [(("terminator" : Str), en.pv), ("self", .ref c), ("number", .int t), ("facts", .ref f)] ∧ (σ' = σ ∧ endK K en = K ∨ σ' = σ.set kd (.dict (endK K en)))) ?_ ?_)
    · cases en with
      | goto n =>
        subst e1
        refine WPX.ite ?_; refine WPB.nameTag (by rfl) (by rfl) (by rfl) ?_
        refine ⟨fun h => (by cases h), fun _ => ?_⟩
        exact WPS.nil ⟨rfl, .inl ⟨rfl, rfl⟩⟩
      | ret =>
        subst e1
        refine WPX.ite ?_; refine WPB.nameTag (by rfl) (by rfl) (by rfl) ?_
        refine ⟨fun h => (by cases h), fun _ => ?_⟩
        exact WPS.nil ⟨rfl, .inl ⟨rfl, rfl⟩⟩
      | call o q n =>
        subst e1
        refine WPX.ite ?_; refine WPB.nameTag (by rfl) (by rfl) (by rfl) ?_
        refine ⟨fun h => (by cases h), fun _ => ?_⟩
        exact WPS.nil ⟨rfl, .inr rfl⟩
      | drop q n =>
        subst e1
        refine WPX.ite ?_; refine WPB.nameTag (by rfl) (by rfl) (by rfl) ?_
        refine ⟨fun _ => ?_, fun h => by cases h⟩
        refine WPS.cons (WPX.expr ?_ (notInter O))
        refine WPE.meth O (C := 273) (f := 270) ⟨by rfl, by rfl, by rfl, by rfl⟩ ?_
        refine WPE.name rfl ?_
        refine ⟨f, fd, _, rfl, h1, h2, by rfl, ?_⟩
        refine WPL.cons ?_; refine WPE.nameAt (by rfl) (by rfl) (by rfl) ?_; refine WPL.nil ?_
        refine Cl.op (Cl.mono (cl_forget x hf hK q) ?_) (O.le (by decide))
        rintro p σ₂ rfl
        exact WPS.nil ⟨rfl, .inr rfl⟩
    rintro ρ' σ₂ ⟨rfl, e2⟩
    have hf₂ : IsFacts σ₂ f kd (endK K en) := by
      rcases e2 with ⟨rfl, e⟩ | rfl
      · rw [e]; exact hf
      · exact hf.put
    have k₂ : Keep [kd] σ σ₂ := by
      rcases e2 with ⟨rfl, e⟩ | rfl
      · exact Keep.refl
      · exact Keep.set (by simp)
    have le : σ.length = σ₂.length := by
      rcases e2 with ⟨rfl, e⟩ | rfl
      · rfl
      · simp
    have cne : ∀ {i : Nat} {d : Cell}, σ[i]? = some d → (∀ l, d ≠ .dict l) → σ₂[i]? = some d := fun {i d} e n => k₂ i d (by
      simp only [List.mem_singleton]
      rintro rfl
      rw [h3] at e; cases e; exact n _ rfl) e
    have c1 := cne c1 (by intro l z; cases z)
    have c2 := cne c2 (by intro l z; cases z)
    clear e1 e2 h1 h2 h3
    obtain ⟨fd, h1, h2, h3⟩ := id hf₂
    refine WPS.assign O (kof hs' rfl) ?_
    refine WPE.meth O (C := 396) (f := 357) ⟨by rfl, by rfl, by rfl, by rfl⟩ ?_
    refine WPE.name rfl ?_
    refine ⟨c, cd, _, rfl, c1, c2, by rfl, ?_⟩
    refine WPL.args (by rfl) ?_
    refine Cl.u0ps (cl_known_target x) O ?_
    refine WPS.ite ?_; refine WPB.cmp ?_; refine WPE.name rfl ?_; refine WPE.cnone ?_
    refine Op2.notNone ⟨_, rfl, fun h => (by cases h), fun _ => ?_⟩
    refine WPS.nil ?_; refine WPS.ret ?_
    refine WPE.compPure O [("facts", .ref f)] (fun p => .tup [p, .ref kd]) ?_ rfl rfl ?_ (freeOk hc rfl)
    rotate_left
    · intro x p e
      obtain ⟨rfl, rfl⟩ := lookup1 e
      exact ⟨rfl, rfl, by rw [kof (x := "facts") (k := .cell) hs' rfl]; intro z; cases z⟩
    refine WPI.list O ?_
    refine WPE.call O (fa := 202) (kof hs' rfl) rfl rfl ?_; refine WPL.args (by rfl) ?_
    refine Cl.u1prrr (cl_succ x) O ?_
    rintro j σ₄ jl hj k₄
    have sl : (intsPV (succ en)).length ≤ 1000 := by cases en <;> simp [succ, intsPV]
    refine ⟨_, _, rfl, hj, ⟨sl, fun l => get_app hj, fun cenv ce p hp l => ?_⟩, ?_⟩
    · refine WPE.tuple ?_; refine WPL.consN (by rfl) ?_; refine WPL.cons ?_; refine WPE.attr ?_; refine WPE.name rfl ?_
      refine Op1.attr O (get_app (k₄ _ _ (by first | exact List.not_mem_nil | simp) h1)) (get_app (k₄ _ _ (by first | exact List.not_mem_nil | simp) h2)) (by rfl) ⟨by rfl, by rfl, by rfl⟩ ?_
      exact WPL.nil ⟨by simp, rfl, rfl⟩
    · have jl' := (List.getElem?_eq_some_iff.mp hj).1
      refine ⟨_, rfl, by omega, ?_, (hf₂.app k₄).app Keep.app, (k₂.trans (k₄.up (by simp))).trans Keep.app⟩
      rw [getNew]
      simp [intsPV, Function.comp_def]

theorem Keep.hi {S : List Nat} {σ σ₁ σ' : List Cell} {kd : Nat} (k : Keep S σ σ₁) (k' : Keep [kd] σ₁ σ') (h : σ.length ≤ kd) : Keep S σ σ' := fun i c n e => k' i c (by
  have := (List.getElem?_eq_some_iff.mp e).1
  simp only [List.mem_singleton]; omega) (k i c n e)
theorem cl_facts_init (x : Px) {σ : List Cell} {fi fd kb : Nat} {K : Known} (h1 : σ[fi]? = some (.inst 273 fd)) (h2 : σ[fd]? = some (.names [])) (h3 : σ[kb]? = some (.dict K)) (hK : K.length ≤ 100) :
    Cl (GG x) 2 249 [.ref fi, .ref kb] σ fun r σ' => r = .none ∧ σ' = (σ ++ [Cell.dict K]).set fd (.names [("known", .ref σ.length)]) := by
  refine Cl.def (name := _) ["self", "known"] rfl rfl ?_ (by decide) (by decide) ?_
  · exact fun s vs _ h => vs2 (P := fun vs => BindsTo s _ ⟨vs, []⟩ (List.zip _ vs)) h fun _ _ => BindsTo.of_eq rfl
  · intro F O hs' hc
    refine WPS.cons ?_; refine WPX.setAttr ?_; refine WPE.tcall O (kof hs' rfl) rfl rfl (by decide) ?_; refine WPL.args (by rfl) ?_
    refine OpN.dictCopy O h3 (by omega) ?_
    refine WPE.name rfl ?_
    refine OpU.setAttr O (get_app h1) (get_app h2) ⟨by rfl, by rfl, by rfl, by rfl⟩ (by simp) ?_
    exact WPS.nil ⟨rfl, rfl⟩
theorem facts_new (x : Px) {F : FX} {n : Nat} (O : F.Ok (GG x) n) (hn : 2 ≤ n) {σ : List Cell} {kb : Nat} {K : Known} (h3 : σ[kb]? = some (.dict K)) (hK : K.length ≤ 100) {Q : PV → List Cell → Prop} (h : ∀ σ', IsFacts σ' (σ.length + 1) (σ.length + 2) K → Keep [] σ σ' → Q (.ref (σ.length + 1)) σ') :
    OpN (GG x) F σ [.ref kb] (fun vs => PySem.call (.ref 273) vs) Q := by
  refine OpN.new (fI := 249) (O.le hn) ⟨by rfl, by rfl, by rfl⟩ (Cl.mono (cl_facts_init x (fi := σ.length + 1) (fd := σ.length) ?_ ?_ (get_app (get_app h3)) hK) ?_)
  · have := getNew (σ := σ ++ [Cell.names []]) (c := Cell.inst 273 σ.length)
    rw [show (σ ++ [Cell.names []]).length = σ.length + 1 by simp] at this
    exact this
  · exact get_app getNew
  · rintro r σ' ⟨rfl, rfl⟩
    refine ⟨rfl, h _ ⟨σ.length, ?_, ?_, ?_⟩ ?_⟩
    · refine getSetNe (get_app ?_) (by omega)
      have := getNew (σ := σ ++ [Cell.names []]) (c := Cell.inst 273 σ.length)
      rw [show (σ ++ [Cell.names []]).length = σ.length + 1 by simp] at this
      exact this
    · rw [getSet (get_app (get_app getNew))]
      simp
    · refine getSetNe ?_ (by omega)
      have := getNew (σ := σ ++ [Cell.names []] ++ [Cell.inst 273 σ.length]) (c := Cell.dict K)
      rw [show (σ ++ [Cell.names []] ++ [Cell.inst 273 σ.length]).length = σ.length + 2 by simp] at this
      exact this
    · exact Keep.setHi ((Keep.app.trans Keep.app).trans Keep.app) (Nat.le_refl _)

noncomputable def steps (lent : Int → Bool) (K : Known) (rs : List Row) : Known := rs.foldl (step lent) K
theorem steps_ok {lent : Int → Bool} : ∀ {rs : List Row} {K : Known}, KOk K → (∀ r ∈ rs, r.ok) → KOk (steps lent K rs)
  | [], K, h, _ => h
  | r :: rs, K, h, hr => steps_ok (rs := rs) (step_ok h (hr r (.head _))) fun q hq => hr q (.tail _ hq)
theorem steps_snoc {lent : Int → Bool} {K : Known} {rs : List Row} {r : Row} : steps lent K (rs ++ [r]) = step lent (steps lent K rs) r := by simp [steps]
theorem row_at {rs : List Row} {k : Nat} {p : PV} (e : (rs.map Row.pv)[k]? = some p) : ∃ r, rs[k]? = some r ∧ p = r.pv ∧ r ∈ rs ∧ rs.take (k + 1) = rs.take k ++ [r] := by
  rw [List.getElem?_map] at e
  obtain ⟨r, hr, rfl⟩ := Option.map_eq_some_iff.mp e
  exact ⟨r, hr, rfl, List.mem_of_getElem? hr, by rw [List.take_add_one, hr]; rfl⟩
theorem cl_behindC (x : Px) {σ : List Cell} {c bi fo be lo bl sp t kb : Nat} {Fo K B : Known} {bs : List Blk} {b : Blk} (hcb : CB σ c bi fo be lo bl sp Fo) (hbe : σ[be]? = some (.dict B)) (hB : dget B t = some (.ref kb)) (hk : σ[kb]? = some (.dict K)) (ok : KOk K)
    (hb : BB σ bl bs) (e : bs[t]? = some b) (ht : t < 1000) (hr : ∀ r ∈ b.2.1, r.ok) :
    Cl (GG x) 10 345 [.ref c, .int t] σ fun p σ' => ∃ f kd, p = .ref f ∧ σ.length ≤ f ∧ σ.length ≤ kd ∧ IsFacts σ' f kd (steps (lentF Fo) K b.2.1) ∧ Keep [] σ σ' := by
  obtain ⟨cd, c1, c2⟩ := hcb.c
  obtain ⟨bd, b1, b2⟩ := hcb.b
  refine Cl.def (name := _) ["self", "number"] rfl rfl ?_ (by decide) (by decide) ?_
  · exact fun s vs _ h => vs2 (P := fun vs => BindsTo s _ ⟨vs, []⟩ (List.zip _ vs)) h fun _ _ => BindsTo.of_eq rfl
  · intro F O hs' hc
    refine WPS.assign O (kof hs' rfl) ?_; refine WPE.call O (fa := 273) (kof hs' rfl) rfl rfl ?_; refine WPL.cons ?_; refine WPE.item ?_; refine WPE.attr ?_; refine WPE.name rfl ?_
    refine Op1.attr O c1 c2 (by rfl) ⟨by rfl, by rfl, by rfl⟩ ?_
    refine WPE.name rfl ?_
    refine Op2.dictAt hbe hB (WPL.nil ?_)
    refine facts_new x O (by omega) hk (by have := ok.len; omega) fun σ₁ hf k₁ => ?_
    have hcb₁ := hcb.app k₁
    have hb₁ := hb.keep k₁ (by simp)
    obtain ⟨ks, k, g1, g2, g3, g4⟩ := hb₁.at e
    obtain ⟨rk, rs, en⟩ := b
    refine WPS.cons (WPX.unpack O ?_)
    refine WPE.item ?_; refine WPE.attr ?_; refine WPE.attr ?_; refine WPE.name rfl ?_
    refine Op1.attr O (k₁ _ _ (by first | exact List.not_mem_nil | simp) c1) (k₁ _ _ (by first | exact List.not_mem_nil | simp) c2) (by rfl) ⟨by rfl, by rfl, by rfl⟩ ?_
    refine Op1.attr O (k₁ _ _ (by first | exact List.not_mem_nil | simp) b1) (k₁ _ _ (by first | exact List.not_mem_nil | simp) b2) (by rfl) ⟨by rfl, by rfl, by rfl⟩ ?_
    refine WPE.name rfl ?_
    refine Op2.listAt g1 (by omega) g2 ?_ (by omega)
    refine WPA.lst O.hh g3 ?_
    refine WPA.name O (kof hs' rfl) ?_
    refine WPA.name O (kof hs' rfl) ?_
    have fo1 := (List.getElem?_eq_some_iff.mp hcb.fo).1
    have lo1 := (List.getElem?_eq_some_iff.mp hcb.lo).1
    refine WPS.cons (WPX.forS O (WPI.list O ?_))
    refine WPE.name rfl ?_
    have rl : ∀ {σ' : List Cell}, Keep [] σ σ' → σ'[rk]? = some (.list (rs.map Row.pv)) := fun kk => by
      obtain ⟨_, _, _, _, _, g⟩ := (hb.keep kk (by simp)).at e
      exact g
    refine ⟨rk, _, rfl, g4, fun k σ' => IsFacts σ' (σ.length + 1) (σ.length + 2) (steps (lentF Fo) K (rs.take k)) ∧ Keep [] σ σ', ⟨hf, k₁⟩, fun k σ' j => rl j.2, fun k p σ' ek j => ?_, fun σ' j => ?_⟩
    · obtain ⟨r, hr', rfl, hm, et⟩ := row_at ek
      obtain ⟨jf, jk⟩ := j
      refine WPA.name O (kof hs' rfl) ?_
      have hcb' := hcb.app jk
      refine WPS.cons (WPX.expr ?_ (notInter O))
      refine WPE.meth O (C := 396) (f := 338) ⟨by rfl, by rfl, by rfl, by rfl⟩ ?_
      refine WPE.name rfl ?_
      refine ⟨c, cd, _, rfl, jk _ _ (by first | exact List.not_mem_nil | simp) c1, jk _ _ (by first | exact List.not_mem_nil | simp) c2, by rfl, ?_⟩
      refine WPL.args (by rfl) ?_
      refine Cl.u0rr (cl_step x (kd := σ.length + 2) hcb' jf (steps_ok ok fun q hq => hr q (List.mem_of_mem_take hq)) (by omega) (by omega) (hr r hm)) O ?_
      rintro p σ₂ hf₂ k₂
      refine WPS.nil ⟨Sub.cons rfl Sub.refl, ?_, jk.hi k₂ (by omega)⟩
      rw [et, steps_snoc]; exact hf₂
    · obtain ⟨jf, jk⟩ := j
      refine WPS.ret ?_; refine WPE.name rfl ?_
      refine ⟨σ.length + 1, σ.length + 2, rfl, by omega, by omega, ?_, jk⟩
      rw [show (List.map Row.pv rs).length = rs.length by simp, List.take_length] at jf
      exact jf

theorem cl_meet (x : Px) {σ : List Cell} {c bi fo be kd : Nat} {K B : Known} {n : Int} (hc0 : IsC σ c bi fo be) (hbe : σ[be]? = some (.dict B)) (hn : dget B n = none) (hB : B.length ≤ 100) (hk : σ[kd]? = some (.dict K)) (hK : K.length ≤ 100) :
    Cl (GG x) 3 362 [.ref c, .int n, .ref kd] σ fun p σ' => p = .bool true ∧ σ' = (σ ++ [Cell.dict K]).set be (.dict (dput B n (.ref σ.length))) := by
  obtain ⟨cd, c1, c2⟩ := hc0
  refine Cl.defC (name := _) ["self", "number", "known"] rfl rfl ?_ (by decide) (by decide) (by decide) ?_
  · exact fun s vs _ h => vs3 (P := fun vs => BindsTo s _ ⟨vs, []⟩ (List.zip _ vs)) h fun _ _ _ => BindsTo.of_eq rfl
  · intro F O hs' hc
    refine WPS.ite ?_; refine WPB.cmp ?_; refine WPE.name rfl ?_; refine WPE.attr ?_; refine WPE.name rfl ?_
    refine Op1.attr O c1 c2 (by rfl) ⟨by rfl, by rfl, by rfl⟩ ?_
    refine Op2.notInDict hbe ⟨_, rfl, fun _ => ?_, fun h => ?_⟩
    · refine WPS.cons ?_; refine WPX.setItem ?_; refine WPE.tcall O (kof hs' rfl) rfl rfl (by decide) ?_; refine WPL.args (by rfl) ?_
      refine OpN.dictCopy O hk (by omega) ?_
      refine WPE.attr ?_; refine WPE.name rfl ?_
      refine Op1.attr O (get_app c1) (get_app c2) (by rfl) ⟨by rfl, by rfl, by rfl⟩ ?_
      refine WPE.name rfl ?_
      refine OpU.dset (get_app hbe) (by omega) ?_
      refine WPS.ret ?_; refine WPE.cbool ?_
      exact ⟨rfl, rfl⟩
    · rw [hn] at h; cases h

noncomputable def enumD (i : Nat) : List Nat → Known
  | [] => []
  | k :: ks => ((i : Int), .ref k) :: enumD (i + 1) ks
theorem enum_get : ∀ {ks : List Nat} {i t k : Nat}, ks[t]? = some k → dget (enumD i ks) ((i + t : Nat) : Int) = some (.ref k)
  | [], _, _, _, e => by simp at e
  | k' :: ks, i, 0, k, e => by
    simp at e; subst e
    simp [enumD, dget]
  | k' :: ks, i, t + 1, k, e => by
    have ih := enum_get (ks := ks) (i := i + 1) (t := t) (k := k) (by simpa using e)
    rw [show i + 1 + t = i + (t + 1) by omega] at ih
    show Option.map (·.2) (List.find? (fun p => decide (p.1 = ((i + (t + 1) : Nat) : Int))) (((i : Int), PV.ref k') :: enumD (i + 1) ks)) = _
    rw [List.find?_cons, decide_eq_false (show ¬ ((i : Int) = ((i + (t + 1) : Nat) : Int)) by omega)]
    exact ih
theorem enum_any : ∀ {ks : List Nat} {i n : Nat}, i + ks.length ≤ n → (enumD i ks).any (fun x => decide (x.1 = (n : Int))) = false
  | [], _, _, _ => rfl
  | k :: ks, i, n, h => by
    simp at h
    unfold enumD
    rw [List.any_cons, decide_eq_false (by omega), enum_any (by omega)]; rfl
theorem enum_none {ks : List Nat} {n : Nat} (h : ks.length ≤ n) : dget (enumD 0 ks) (n : Int) = none := by
  have := enum_any (ks := ks) (i := 0) (n := n) (by omega)
  unfold dget
  rw [Option.map_eq_none_iff, List.find?_eq_none]
  rw [List.any_eq_false] at this
  exact fun x hx => this x hx
theorem enum_app : ∀ {ks : List Nat} {i k : Nat}, enumD i (ks ++ [k]) = enumD i ks ++ [(((i + ks.length : Nat) : Int), .ref k)]
  | [], i, k => rfl
  | k' :: ks, i, k => by
    have := enum_app (ks := ks) (i := i + 1) (k := k)
    rw [List.cons_append]
    unfold enumD
    rw [this, List.cons_append, show i + 1 + ks.length = i + (k' :: ks).length by simp; omega]
theorem enum_put {ks : List Nat} {k : Nat} : dput (enumD 0 ks) (ks.length : Int) (.ref k) = enumD 0 (ks ++ [k]) := by
  unfold dput
  rw [if_neg (by rw [enum_any (by omega)]; simp), enum_app]
  simp
theorem enum_len : ∀ {ks : List Nat} {i : Nat}, (enumD i ks).length = ks.length
  | [], _ => rfl
  | _ :: ks, i => by simp [enumD, enum_len (ks := ks)]

/-- what is known ahead of each block -/
noncomputable def beg (lent : Int → Bool) (bs : List Blk) : Nat → Known
  | 0 => []
  | t + 1 => match bs[t]? with
    | some b => endK (steps lent (beg lent bs t) b.2.1) b.2.2
    | none => []
/-- the first M blocks are gone through in order -/
noncomputable def Path (bs : List Blk) (M : Nat) : Prop := 1 ≤ M ∧ M ≤ 20 ∧ ∀ t, t < M → ∃ b, bs[t]? = some b ∧ (∀ r ∈ b.2.1, r.ok) ∧ b.2.1.length ≤ 20 ∧ b.2.2.okE ∧ succ b.2.2 = if t + 1 < M then [((t + 1 : Nat) : Int)] else []
theorem endK_ok {K : Known} (h : KOk K) {e : End} : KOk (endK K e) := by
  cases e <;> first | exact h | exact h.del
theorem beg_ok {lent : Int → Bool} {bs : List Blk} {M : Nat} (hp : Path bs M) : ∀ {t : Nat}, t ≤ M → KOk (beg lent bs t)
  | 0, _ => KOk.nil
  | t + 1, h => by
    obtain ⟨b, e, hr, _⟩ := hp.2.2 t (by omega)
    unfold beg
    rw [e]
    exact endK_ok (steps_ok (beg_ok hp (by omega)) hr)
noncomputable def Begs (σ : List Cell) (be : Nat) (lent : Int → Bool) (bs : List Blk) (ks : List Nat) : Prop := σ[be]? = some (.dict (enumD 0 ks)) ∧ ∀ (t k : Nat), ks[t]? = some k → k ≠ be ∧ σ[k]? = some (.dict (beg lent bs t))
theorem Begs.keep {S : List Nat} {σ σ' : List Cell} {be : Nat} {lent : Int → Bool} {bs : List Blk} {ks : List Nat} (h : Begs σ be lent bs ks) (k : Keep S σ σ') (n : ∀ i ∈ S, ∀ l, σ[i]? ≠ some (.dict l)) : Begs σ' be lent bs ks :=
  ⟨k _ _ (fun q => n _ q _ h.1) h.1, fun t i e => ⟨(h.2 t i e).1, k _ _ (fun q => n _ q _ (h.2 t i e).2) (h.2 t i e).2⟩⟩
theorem sh_int {a : Int} : SeqAt.shaped (.list [.int a]) = true := by simp [SeqAt.shaped, PyData.canLay0, PyData.canLayAll0, PyData.depth, PyData.depthAll]
theorem cl_follow (x : Px) {σ : List Cell} {c bi fo be lo bl sp k0 M : Nat} {Fo : Known} {bs : List Blk} (hcb : CB σ c bi fo be lo bl sp Fo) (hb : BB σ bl bs) (hbe : Begs σ be (lentF Fo) bs [k0]) (hbf : be ≠ fo) (hp : Path bs M) :
    Cl (GG x) 12 369 [.ref c] σ fun _ σ' => ∃ ks, ks.length = M ∧ Begs σ' be (lentF Fo) bs ks ∧ Keep [be] σ σ' := by
  obtain ⟨cd, c1, c2⟩ := hcb.c
  have bl' := (List.getElem?_eq_some_iff.mp hbe.1).1
  have cbk : ∀ {σ' : List Cell}, Keep [be] σ σ' → CB σ' c bi fo be lo bl sp Fo ∧ BB σ' bl bs := fun kk => by
    refine ⟨hcb.keep kk fun i hi => ?_, hb.keep kk fun i hi l => ?_⟩
    · rw [List.mem_singleton.mp hi, hbe.1]
      exact ⟨fun _ _ z => (by cases z), fun _ z => (by cases z), (fun q => by have := hcb.lo; rw [← q, hbe.1] at this; cases this), hbf⟩
    · rw [List.mem_singleton.mp hi, hbe.1]; intro z; cases z
  refine Cl.def (name := _) ["self"] rfl rfl ?_ (by decide) (by decide) ?_
  · exact fun s vs _ h => vs1 (P := fun vs => BindsTo s _ ⟨vs, []⟩ (List.zip _ vs)) h fun _ => BindsTo.of_eq rfl
  · intro F O hs' hc
    refine WPS.assign O (kof hs' rfl) ?_; refine WPE.list ?_; refine WPL.args (by rfl) ?_
    refine ⟨by simp, ?_⟩
    refine WPS.cons (WPX.whileS (fun k σ' => Keep [be] σ σ' ∧ ∃ ks, Begs σ' be (lentF Fo) bs ks ∧ ((k = 0 ∧ ks.length = M ∧ σ'[σ.length]? = some (.list [])) ∨ (∃ t, t < M ∧ ks.length = t + 1 ∧ k = M - t ∧ σ'[σ.length]? = some (.list [.int (t : Int)])))) M ⟨Keep.app, [k0], hbe.keep (S := []) Keep.app (by simp), .inr ⟨0, by have := hp.1; omega, rfl, rfl, getNew⟩⟩ ?_)
    rintro k σ₁ ⟨kk, ks, bg, hh⟩
    rcases hh with ⟨rfl, hl, hlf⟩ | ⟨t, tM, hl, rfl, hlf⟩
    · refine WPB.cmp ?_; refine WPE.name rfl ?_; refine WPE.list0 ?_
      refine Op2.neD O (.list (get_app hlf) .nil) (.list getNew .nil) rfl rfl ⟨_, rfl, fun h => (by cases h), fun _ => ?_⟩
      exact WPS.nil ⟨ks, hl, bg.keep (S := []) Keep.app (by simp), kk.trans Keep.app⟩
    · refine WPB.cmp ?_; refine WPE.name rfl ?_; refine WPE.list0 ?_
      refine Op2.neD O (.list (get_app hlf) (.cons (.flat _ rfl) .nil)) (.list getNew .nil) sh_int rfl ⟨_, rfl, fun _ => ?_, fun h => by cases h⟩
      have kk := kk.trans (Keep.app (S := [be]) (σ := σ₁) (l := [Cell.list []]))
      have bg := bg.keep (S := []) (Keep.app (σ := σ₁) (l := [Cell.list []])) (by simp)
      have hlf := get_app (τ := [Cell.list []]) hlf
      generalize σ₁ ++ [Cell.list []] = σ₁ at kk bg hlf
      refine WPS.assign O (kof hs' rfl) ?_; refine WPE.bmeth0 (T := "list") PySem.F.plainAttrs_list PySem.F.slot_list_pop PySem.F.type_list_pop (.inl rfl) ?_; refine WPE.name rfl ?_
      refine ⟨σ.length, _, rfl, hlf, rfl, ?_⟩
      refine OpN.pop (l := []) hlf (by simp) ?_
      have kk2 : Keep [be] σ (σ₁.set σ.length (.list [])) := kk.setHi (Nat.le_refl _)
      have bg2 : Begs (σ₁.set σ.length (.list [])) be (lentF Fo) bs ks := bg.keep (S := [σ.length]) (Keep.set (by simp)) (by intro i hi l; rw [List.mem_singleton.mp hi, hlf]; intro z; cases z)
      have hlf2 := getSet (d := .list []) hlf
      generalize σ₁.set σ.length (.list []) = σ₂ at kk2 bg2 hlf2
      obtain ⟨b, eb, hr, hrl, hen, hsu⟩ := hp.2.2 t tM
      have tl : t < ks.length := by omega
      have ek := List.getElem?_eq_getElem tl
      obtain ⟨hcb2, hb2⟩ := cbk kk2
      obtain ⟨cd2, d1, d2⟩ := hcb2.c
      refine WPS.cons (WPX.forS O (WPI.list O ?_))
      refine WPE.meth O (C := 396) (f := 350) ⟨by rfl, by rfl, by rfl, by rfl⟩ ?_
      refine WPE.name rfl ?_
      refine ⟨c, cd2, _, rfl, d1, d2, by rfl, ?_⟩
      refine WPL.consN (by rfl) ?_; refine WPL.cons ?_
      refine WPE.meth O (C := 396) (f := 345) ⟨by rfl, by rfl, by rfl, by rfl⟩ ?_
      refine WPE.name rfl ?_
      refine ⟨c, cd2, _, rfl, d1, d2, by rfl, ?_⟩
      refine WPL.args (by rfl) ?_
      have eg := enum_get (i := 0) ek
      rw [Nat.zero_add] at eg
      refine Cl.u2prrrr (cl_behindC x hcb2 bg2.1 eg (bg2.2 t _ ek).2 (beg_ok hp (by omega)) hb2 eb (by have := hp.2.1; omega) hr) O ?_
      rintro f kd σ₃ fl kl hf k₃
      refine WPL.nil ?_
      have kk3 := kk2.trans (k₃.up (T := [be]) (by simp))
      obtain ⟨hcb3, hb3⟩ := cbk kk3
      have bg3 := bg2.keep k₃ (by simp)
      have len2 : ∀ {i : Nat} {d : Cell}, σ₂[i]? = some d → i < kd := fun e => by have := (List.getElem?_eq_some_iff.mp e).1; omega
      have okS : KOk (steps (lentF Fo) (beg (lentF Fo) bs t) b.2.1) := steps_ok (beg_ok hp (by omega)) hr
      refine Cl.u1prrrr (cl_gone_on x hcb3 hf (by have := okS.len; omega) (by have := len2 hcb2.fo; omega) (by have := len2 hcb2.lo; omega) hb3 eb (by have := hp.2.1; omega)) O ?_
      rintro j σ₄ jl hj hf4 k₄
      have kd0 : σ.length ≤ kd := by have := len2 hlf2; omega
      have kk4 : Keep [be] σ σ₄ := kk3.hi k₄ kd0
      have hlf4 : σ₄[σ.length]? = some (.list []) := k₄ _ _ (by have := len2 hlf2; simp; omega) (k₃ _ _ (by first | exact List.not_mem_nil | simp) hlf2)
      have bg4 : Begs σ₄ be (lentF Fo) bs ks := by
        refine ⟨k₄ _ _ (by have := len2 bg2.1; simp; omega) bg3.1, fun t' k' e => ⟨(bg3.2 t' k' e).1, k₄ _ _ (by have := len2 (bg2.2 t' k' e).2; simp; omega) (bg3.2 t' k' e).2⟩⟩
      have begS : endK (steps (lentF Fo) (beg (lentF Fo) bs t) b.2.1) b.2.2 = beg (lentF Fo) bs (t + 1) := by
        show _ = (match bs[t]? with | some b => _ | none => _)
        rw [eb]
      rw [begS] at hf4
      rw [hsu] at hj
      by_cases hlast : t + 1 < M
      · rw [if_pos hlast] at hj
        refine ⟨j, _, rfl, hj, fun n σ' => (n = 0 ∧ σ' = σ₄) ∨ (1 ≤ n ∧ Keep [be] σ σ' ∧ σ'[j]? = some (.list [.tup [.int ((t + 1 : Nat) : Int), .ref kd]]) ∧ ∃ ks', Begs σ' be (lentF Fo) bs ks' ∧ ks'.length = t + 2 ∧ σ'[σ.length]? = some (.list [.int ((t + 1 : Nat) : Int)])), .inl ⟨rfl, rfl⟩, ?_, ?_, ?_⟩
        · rintro n σ' (⟨_, rfl⟩ | ⟨_, _, q, _⟩)
          · exact hj
          · exact q
        · rintro n p σ' en jj
          have hn : n = 0 := by
            have := (List.getElem?_eq_some_iff.mp en).1
            simp at this; omega
          subst hn
          rcases jj with ⟨_, rfl⟩ | ⟨q, _⟩
          · simp at en
            subst en
            refine WPA.tup O.hh ?_
            refine WPA.name O (kof hs' rfl) ?_
            refine WPA.name O (kof hs' rfl) ?_
            obtain ⟨hcb4, hb4⟩ := cbk kk4
            obtain ⟨cd4, f1, f2⟩ := hcb4.c
            obtain ⟨fd, g1, g2, g3⟩ := hf4
            refine WPS.cons (WPX.ite (WPB.plain ?_))
            refine WPE.meth O (C := 396) (f := 362) ⟨by rfl, by rfl, by rfl, by rfl⟩ ?_
            refine WPE.name rfl ?_
            refine ⟨c, cd4, _, rfl, f1, f2, by rfl, ?_⟩
            refine WPL.args (by rfl) ?_
            have hB : dget (enumD 0 ks) ((t + 1 : Nat) : Int) = none := enum_none (by omega)
            refine Cl.op (Cl.mono  (cl_meet x hcb4.c bg4.1 hB (by rw [enum_len]; have := hp.2.1; omega) g3 (by have := (beg_ok (lent := lentF Fo) hp (t := t + 1) (by omega)).len; omega)) ?_) (O.le (by decide))
            rintro p σ₅ ⟨rfl, rfl⟩
            refine OpB.bool ⟨fun _ => ?_, fun h => by cases h⟩
            have sl4 : σ.length < σ'.length := (List.getElem?_eq_some_iff.mp hlf4).1
            have beq : be ≠ σ.length := by omega
            have hlf5 : ((σ' ++ [Cell.dict (beg (lentF Fo) bs (t + 1))]).set be (.dict (dput (enumD 0 ks) ((t + 1 : Nat) : Int) (.ref σ'.length))))[σ.length]? = some (.list []) := getSetNe (get_app hlf4) beq
            refine WPS.cons ?_; refine WPX.expr ?_ (notInter O); refine WPE.bmeth (T := "list") PySem.F.plainAttrs_list PySem.F.slot_list_append PySem.F.type_list_append (.inl rfl) ?_; refine WPE.name rfl ?_
            refine ⟨σ.length, _, rfl, hlf5, rfl, ?_⟩
            refine WPL.args (by rfl) ?_
            refine OpN.append hlf5 (by simp) ?_
            refine WPS.nil (WPS.nil ⟨Sub.cons rfl (Sub.cons rfl Sub.refl), .inr ⟨Nat.le_refl _, ?_, ?_, ks ++ [σ'.length], ⟨?_, fun t' k' e' => ?_⟩, by simp; omega, ?_⟩⟩)
            · exact ((kk4.trans Keep.app).trans (Keep.set (by simp))).setHi (Nat.le_refl _)
            · have jn : j ≠ be := fun q => by rw [q, bg4.1] at hj; cases hj
              have jn2 : j ≠ σ.length := fun q => by rw [q, hlf4] at hj; cases hj
              exact getSetNe (getSetNe (get_app hj) (Ne.symm jn)) (Ne.symm jn2)
            · refine getSetNe ?_ (Ne.symm beq)
              rw [getSet (get_app bg4.1), ← hl, enum_put]
            · by_cases q : t' < ks.length
              · rw [List.getElem?_append_left q] at e'
                obtain ⟨q1, q2⟩ := bg4.2 t' k' e'
                refine ⟨q1, getSetNe (getSetNe (get_app q2) (Ne.symm q1)) fun z => ?_⟩
                rw [← z, hlf4] at q2; cases q2
              · rw [List.getElem?_append_right (by omega)] at e'
                have h0 : t' - ks.length = 0 := by
                  have := (List.getElem?_eq_some_iff.mp e').1
                  simp at this; omega
                rw [h0] at e'
                simp at e'
                subst e'
                have bl4 : be < σ'.length := (List.getElem?_eq_some_iff.mp bg4.1).1
                refine ⟨by omega, getSetNe (getSetNe ?_ (by omega)) (by omega)⟩
                rw [getNew, show t' = t + 1 by omega]
            · rw [getSet hlf5]; rfl
          · omega
        · rintro σ' (⟨q, _⟩ | ⟨_, kk', _, ks', bg', hl', hlf'⟩)
          · simp at q
          · exact WPS.nil ⟨Sub.cons rfl Sub.refl, M - (t + 1), by omega, kk', ks', bg', .inr ⟨t + 1, hlast, hl', rfl, hlf'⟩⟩
      · rw [if_neg hlast] at hj
        refine ⟨j, _, rfl, hj, fun n σ' => σ' = σ₄, rfl, fun n σ' e => e ▸ hj, fun n p σ' en => by simp at en, ?_⟩
        rintro σ' rfl
        exact WPS.nil ⟨Sub.cons rfl Sub.refl, 0, by omega, kk4, ks, bg4, .inl ⟨rfl, by omega, hlf4⟩⟩

noncomputable def lendAt (l : Int) : Row → Bool
  | .lend q => q.loc == l
  | _ => false
noncomputable def lentOf (bs : List Blk) (l : Int) : Bool := bs.any fun b => b.2.1.any (lendAt l)
theorem dput_some {K : Known} {l k : Int} {p : PV} : (dget (dput K l p) k).isSome = ((dget K k).isSome || l == k) := by
  have key : ∀ (K : Known) (k : Int), (dget K k).isSome = K.any fun x => decide (x.1 = k) := by
    intro K k
    unfold dget
    rw [Option.isSome_map, Bool.eq_iff_iff, List.find?_isSome, List.any_eq_true]
  rw [key, key]
  unfold dput
  by_cases h : (K.any fun x => decide (x.1 = l)) = true
  · rw [if_pos h, List.any_map]
    have e1 : (K.any ((fun x : Int × PV => decide (x.1 = k)) ∘ fun x => if x.1 = l then (x.1, p) else x)) = K.any fun x => decide (x.1 = k) := by
      congr 1
      funext x
      simp only [Function.comp]
      by_cases q : x.1 = l <;> simp [q]
    rw [e1]
    by_cases q : l = k
    · subst q; rw [h]; simp
    · simp [q]
  · rw [if_neg h, List.any_append]
    by_cases q : l = k <;> simp [q, Bool.or_comm]
theorem dput_len {K : Known} {l : Int} {p : PV} : (dput K l p).length ≤ K.length + 1 := by
  unfold dput
  split <;> simp
theorem cl_lent (x : Px) {σ : List Cell} {bi lo bl sp : Nat} {bs : List Blk} (hbd : IsBody σ bi lo bl sp) (hb : BB σ bl bs) (hr : ∀ b ∈ bs, b.2.1.length ≤ 20) (hn : bs.length ≤ 20) :
    Cl (GG x) 2 235 [.ref bi] σ fun p σ' => ∃ d D, p = .ref d ∧ σ.length ≤ d ∧ σ'[d]? = some (.dict D) ∧ (∀ l, (dget D l).isSome = lentOf bs l) ∧ Keep [] σ σ' := by
  obtain ⟨bd, b1, b2⟩ := hbd
  obtain ⟨ks, kl, h1, h2⟩ := hb
  refine Cl.def (name := _) ["body"] rfl rfl ?_ (by decide) (by decide) ?_
  · exact fun s vs _ h => vs1 (P := fun vs => BindsTo s _ ⟨vs, []⟩ (List.zip _ vs)) h fun _ => BindsTo.of_eq rfl
  · intro F O hs' hc
    refine WPS.assign O (kof hs' rfl) ?_; refine WPE.dict0 O ?_
    have d0 : (σ ++ [Cell.dict []])[σ.length]? = some (.dict []) := getNew
    refine WPS.cons (WPX.forS O (WPI.list O ?_))
    refine WPE.attr ?_; refine WPE.name rfl ?_
    refine Op1.attr O (get_app b1) (get_app b2) (by rfl) ⟨by rfl, by rfl, by rfl⟩ ?_
    have bll := (List.getElem?_eq_some_iff.mp h1).1
    refine ⟨bl, _, rfl, get_app h1, fun k σ' => Keep [] σ σ' ∧ ∃ D, σ'[σ.length]? = some (.dict D) ∧ D.length ≤ 20 * k ∧ ∀ l, (dget D l).isSome = lentOf (bs.take k) l, ⟨Keep.app, [], d0, by simp, fun l => rfl⟩, fun k σ' j => j.1 _ _ (by first | exact List.not_mem_nil | simp) h1, fun k p σ' ek j => ?_, fun σ' j => ?_⟩
    · obtain ⟨jk, D, jd, jl, jD⟩ := j
      rw [List.getElem?_map] at ek
      obtain ⟨kb, ekb, rfl⟩ := Option.map_eq_some_iff.mp ek
      have kb' : k < bs.length := by rw [← kl]; exact (List.getElem?_eq_some_iff.mp ekb).1
      have eb := List.getElem?_eq_getElem kb'
      obtain ⟨g1, g2⟩ := h2 k kb _ ekb eb
      have hrb := hr _ (List.mem_of_getElem? eb)
      have et : bs.take (k + 1) = bs.take k ++ [bs[k]] := by rw [List.take_add_one, eb]; rfl
      dsimp only
      rw [et]
      generalize bs[k] = b at g1 g2 hrb et
      obtain ⟨rk, rs, en⟩ := b
      refine WPA.lst O.hh (jk _ _ (by first | exact List.not_mem_nil | simp) g1) ?_
      refine WPA.name O (kof hs' rfl) ?_
      refine WPA.name O (kof hs' rfl) ?_
      refine WPS.cons (WPX.forS O (WPI.list O ?_))
      refine WPE.name rfl ?_
      refine ⟨rk, _, rfl, jk _ _ (by first | exact List.not_mem_nil | simp) g2, fun i σ' => Keep [] σ σ' ∧ ∃ D, σ'[σ.length]? = some (.dict D) ∧ D.length ≤ 20 * k + i ∧ ∀ l, (dget D l).isSome = (lentOf (bs.take k) l || (rs.take i).any (lendAt l)), ⟨jk, D, jd, by omega, fun l => by rw [jD]; simp⟩, fun i σ' j => j.1 _ _ (by first | exact List.not_mem_nil | simp) g2, fun i p σ' er j => ?_, fun σ' j => ?_⟩
      · obtain ⟨jk, D, jd, jl, jD⟩ := j
        obtain ⟨r, hr', rfl, hm, etr⟩ := row_at er
        have il := (List.getElem?_eq_some_iff.mp hr').1
        dsimp only
        rw [etr]
        have hrb : rs.length ≤ 20 := hrb
        refine WPA.name O (kof hs' rfl) ?_
        have other : (∀ l, lendAt l r = false) → Sub (List.cons (("terminator" : Str), en.pv) (List.cons (("statements" : Str), .ref rk) [(("found" : Str), .ref σ.length), ("body", .ref bi)])) (List.cons (("statement" : Str), r.pv) (List.cons (("terminator" : Str), en.pv) (List.cons (("statements" : Str), .ref rk) [(("found" : Str), .ref σ.length), ("body", .ref bi)]))) ∧ Keep [] σ σ' ∧ ∃ D, σ'[σ.length]? = some (.dict D) ∧ D.length ≤ 20 * k + (i + 1) ∧ ∀ l, (dget D l).isSome = (lentOf (bs.take k) l || (rs.take i ++ [r]).any (lendAt l)) := fun h => ⟨Sub.cons rfl Sub.refl, jk, D, jd, by omega, fun l => by rw [jD, List.any_append]; simp [h]⟩
        cases r with
        | print o =>
          refine WPS.ite ?_; refine WPB.bools ?_; refine WPBA.and ?_; refine WPB.nameTag (by rfl) (by rfl) (by rfl) ?_
          refine ⟨fun h => (by cases h), fun _ => ⟨fun h => (by cases h), fun _ => ?_⟩⟩
          exact WPS.nil (WPS.nil (other fun _ => rfl))
        | mark lv l =>
          refine WPS.ite ?_; refine WPB.bools ?_; refine WPBA.and ?_; refine WPB.nameTag (by rfl) (by rfl) (by rfl) ?_
          refine ⟨fun h => (by cases lv <;> cases h), fun _ => ⟨fun h => (by cases h), fun _ => ?_⟩⟩
          exact WPS.nil (WPS.nil (other fun _ => rfl))
        | use q o =>
          refine WPS.ite ?_; refine WPB.bools ?_; refine WPBA.and ?_; refine WPB.nameTag (by rfl) (by rfl) (by rfl) ?_
          refine ⟨fun _ => ?_, fun h => by cases h⟩
          refine WPBA.and ?_; refine WPB.cmp ?_; refine WPE.item ?_; refine WPE.nameAt (by rfl) (by rfl) (by rfl) ?_; refine WPE.cint ?_; refine Op2.tupAt (by rfl) (by rfl) ?_; refine WPE.cstr ?_
          refine Op2.eqS ⟨_, rfl, fun h => (by cases h), fun _ => ⟨fun h => (by cases h), fun _ => ?_⟩⟩
          exact WPS.nil (WPS.nil (other fun _ => rfl))
        | two a b =>
          refine WPS.ite ?_; refine WPB.bools ?_; refine WPBA.and ?_; refine WPB.nameTag (by rfl) (by rfl) (by rfl) ?_
          refine ⟨fun _ => ?_, fun h => by cases h⟩
          refine WPBA.and ?_; refine WPB.cmp ?_; refine WPE.item ?_; refine WPE.nameAt (by rfl) (by rfl) (by rfl) ?_; refine WPE.cint ?_; refine Op2.tupAt (by rfl) (by rfl) ?_; refine WPE.cstr ?_
          refine Op2.eqS ⟨_, rfl, fun h => (by cases h), fun _ => ⟨fun h => (by cases h), fun _ => ?_⟩⟩
          exact WPS.nil (WPS.nil (other fun _ => rfl))
        | lend q =>
          refine WPS.ite ?_; refine WPB.bools ?_; refine WPBA.and ?_; refine WPB.nameTag (by rfl) (by rfl) (by rfl) ?_
          refine ⟨fun _ => ?_, fun h => by cases h⟩
          refine WPBA.and ?_; refine WPB.cmp ?_; refine WPE.item ?_; refine WPE.nameAt (by rfl) (by rfl) (by rfl) ?_; refine WPE.cint ?_; refine Op2.tupAt (by rfl) (by rfl) ?_; refine WPE.cstr ?_
          refine Op2.eqS ⟨_, rfl, fun _ => ?_, fun h => by cases h⟩
          refine WPBA.andNil ⟨fun _ => ?_, fun h => by cases h⟩
          refine WPS.cons ?_; refine WPX.setItem ?_; refine WPE.cbool ?_; refine WPE.name rfl ?_; refine WPE.item ?_; refine WPE.item ?_; refine WPE.nameAt (by rfl) (by rfl) (by rfl) ?_; refine WPE.cint ?_; refine Op2.tupAt (by rfl) (by rfl) ?_; refine WPE.cint ?_
          have fin : WPS (GG x) F (List.cons (("statement" : Str), (Row.lend q).pv) (List.cons (("terminator" : Str), en.pv) (List.cons (("statements" : Str), .ref rk) [(("found" : Str), .ref σ.length), ("body", .ref bi)]))) (σ'.set σ.length (.dict (dput D q.loc (.bool true)))) [] (fun ρ₂ σ₂ => Sub (List.cons (("terminator" : Str), en.pv) (List.cons (("statements" : Str), .ref rk) [(("found" : Str), .ref σ.length), ("body", .ref bi)])) ρ₂ ∧ Keep [] σ σ₂ ∧ ∃ D, σ₂[σ.length]? = some (.dict D) ∧ D.length ≤ 20 * k + (i + 1) ∧ ∀ l, (dget D l).isSome = (lentOf (bs.take k) l || (rs.take i ++ [Row.lend q]).any (lendAt l))) (fun p σ' => ∃ d D, p = .ref d ∧ σ.length ≤ d ∧ σ'[d]? = some (.dict D) ∧ (∀ l, (dget D l).isSome = lentOf bs l) ∧ Keep [] σ σ') := by
            refine WPS.nil ⟨Sub.cons rfl Sub.refl, jk.setHi (Nat.le_refl _), dput D q.loc (.bool true), getSet jd, ?_, fun l => ?_⟩
            · have := dput_len (K := D) (l := q.loc) (p := .bool true); omega
            · rw [dput_some, jD, List.any_append]
              simp [lendAt, Bool.or_assoc]
          cases q with
          | whole l => exact Op2.tupAt (by rfl) (by rfl) (OpU.dset jd (by omega) (WPS.nil fin))
          | part k => exact Op2.tupAt (by rfl) (by rfl) (OpU.dset jd (by omega) (WPS.nil fin))
      · obtain ⟨jk, D, jd, jl, jD⟩ := j
        refine WPS.nil ⟨Sub.cons rfl (Sub.cons rfl Sub.refl), jk, D, jd, ?_, fun l => ?_⟩
        · have hrb : rs.length ≤ 20 := hrb
          simp at jl; omega
        · rw [jD, show (List.map Row.pv rs).length = rs.length by simp, List.take_length]
          simp [lentOf]
    · obtain ⟨jk, D, jd, jl, jD⟩ := j
      refine WPS.ret ?_; refine WPE.name rfl ?_
      refine ⟨σ.length, D, rfl, Nat.le_refl _, jd, fun l => ?_, jk⟩
      rw [jD, show (List.map PV.ref ks).length = bs.length by simp [kl], List.take_length]

/-- a display of one pair, its key a whole number -/
theorem WPE.dict1 {G : GX} {F : FX} {env : Env} {ρ : PEnv} {σ : List Cell} {n : Nat} (O : F.Ok G n) {k : Int} {tk : Nat} {kp pos : Pos} {v : Expr} {Q : PV → List Cell → Prop}
    (h : WPE G F env ρ (σ ++ [.dict []]) v fun p σ' => σ'[σ.length]? = some (.dict []) ∧ Q (.ref σ.length) (σ'.set σ.length (.dict [(k, p)]))) : WPE G F env ρ σ (.Dict [some (.Constant (.int k) tk kp)] [v] pos) Q := fun m as s I R => by
  refine wpAny_Dict_walk (knd := intKind G.prog G.w) rfl rfl (by simp) (by simp) ?_
  have up : ∀ b o, s.heap.get? b = some o → (s.heap.push { cls := .type "dict", data := .dict #[] }).get? b = some o := fun b o e => Heap.get?_push_of_some _ e
  have cr : CR G (s.heap.push { cls := .type "dict", data := .dict #[] }) (as ++ [s.heap.objs.size]) s.heap.objs.size (.dict []) := ⟨notMods O I, [], Heap.DictOf.new _, rfl⟩
  obtain ⟨I1, S1⟩ := I.new (s' := { s with heap := s.heap.push { cls := .type "dict", data := .dict #[] } }) (c := .dict []) (fun b o e _ => up b o e) (I.frUp up) I.top.1 I.top.2 cr rfl rfl
  refine pairTrees_cons_walk ?_
  refine wpAny_Constant_int ?_
  have I2 := I1.toks (s.toks + 1)
  refine wpm (h m _ _ I2 (R.stp S1)) fun u s₁ H => ?_
  obtain ⟨p, σ', as', I', S', V, hd, q⟩ := H
  refine pairTrees_nil_walk ?_
  have ha : (as ++ [s.heap.objs.size])[σ.length]? = some s.heap.objs.size := by rw [← I.len]; simp
  have ha' := getElem?_of_prefix S'.pre ha
  obtain ⟨lo, kvs, hdo, hk⟩ := I'.cr _ _ _ ha' hd
  have hk : kvs = [] := hk
  subst hk
  refine ⟨[(k, u)], ⟨isIntK _ _ _ _, rfl, trivial⟩, hdo, fun h' hm hs => ?_⟩
  have st := I'.stpBut ha' hs
  obtain ⟨I3, S3⟩ := I'.setBut (s' := { s₁ with heap := h', toks := s₁.toks + 1 }) (c := .dict [(k, p)]) ha' hs ⟨lo, [(k, u)], hm, ⟨u, [], rfl, V.stp st, rfl⟩⟩ rfl rfl
  refine ⟨.ref σ.length, _, as', I3, (S1.trans S').trans S3, ?_, q⟩
  rw [VR]
  exact ⟨_, ha', rfl⟩
theorem cl_followed_byte (x : Px) {σ : List Cell} : Cl (GG x) 2 228 [bytePV] σ fun p σ' => p = .bool true ∧ Keep [] σ σ' := by
  refine Cl.def (name := _) ["t"] rfl rfl ?_ (by decide) (by decide) ?_
  · exact fun s vs _ h => vs1 (P := fun vs => BindsTo s _ ⟨vs, []⟩ (List.zip _ vs)) h fun _ => BindsTo.of_eq rfl
  · intro F O hs' hc
    refine WPS.ifTagF0 (by rfl) (by rfl) (by rfl) (by rfl) ?_
    refine WPS.ret ?_; refine WPE.cmp ?_; refine WPE.nameAt (by rfl) (by rfl) (by rfl) ?_
    refine WPE.gname O (kof hs' rfl) rfl (fun m as s I => vr_plain x O m as s I) ?_
    refine Op2.inTup O (.flat (.str "int") rfl) (.flat plainPV rfl) (sh_str (by decide +kernel)) (in_plain (a := "int") (by decide +kernel)) ⟨?_, Keep.refl⟩
    exact congrArg PV.bool (by decide +kernel)
theorem cl_followed_ref (x : Px) {σ : List Cell} : Cl (GG x) 2 228 [refT] σ fun p σ' => p = .bool false ∧ Keep [] σ σ' := by
  refine Cl.def (name := _) ["t"] rfl rfl ?_ (by decide) (by decide) ?_
  · exact fun s vs _ h => vs1 (P := fun vs => BindsTo s _ ⟨vs, []⟩ (List.zip _ vs)) h fun _ => BindsTo.of_eq rfl
  · intro F O hs' hc
    refine WPS.ifTagF0 (by rfl) (by rfl) (by rfl) (by rfl) ?_
    refine WPS.ret ?_; refine WPE.cmp ?_; refine WPE.nameAt (by rfl) (by rfl) (by rfl) ?_
    refine WPE.gname O (kof hs' rfl) rfl (fun m as s I => vr_plain x O m as s I) ?_
    refine Op2.inTup O (.flat (.str "ref") rfl) (.flat plainPV rfl) (sh_str (by decide +kernel)) (in_plain (a := "int") (by decide +kernel)) ⟨?_, Keep.refl⟩
    exact congrArg PV.bool (by decide +kernel)
theorem cl_followed_pair (x : Px) {σ : List Cell} : Cl (GG x) 2 228 [pairT] σ fun p σ' => p = .bool true ∧ Keep [] σ σ' := by
  refine Cl.def (name := _) ["t"] rfl rfl ?_ (by decide) (by decide) ?_
  · exact fun s vs _ h => vs1 (P := fun vs => BindsTo s _ ⟨vs, []⟩ (List.zip _ vs)) h fun _ => BindsTo.of_eq rfl
  · intro F O hs' hc
    refine WPS.ifTagT (by rfl) (by rfl) (by rfl) (by rfl) ?_
    refine WPS.ret ?_; refine WPE.cmp ?_
    refine WPE.comp O [] ?_ (fun x p e => by cases e) (noFree rfl)
    refine WPI.tup O ?_
    refine WPE.nameAt (by rfl) (by rfl) (by rfl) ?_
    refine ⟨_, rfl, fun k σ' => σ' = σ ++ [.list []], rfl, fun _ _ _ => trivial, fun cenv ce k p σ' e j => ?_, fun σ' j => ?_⟩
    · subst j
      refine WPA.cname ce.nL (ce.kind _ _ rfl (by intro z; cases z)) ⟨Sub.cons rfl Sub.refl, ?_⟩
      have hp : p = bytePV := by
        rcases k with _ | _ | k <;> simp at e <;> exact e.symm
      subst hp
      refine WPB.cmp ?_; refine WPE.nameAt (by rfl) (by rfl) (by rfl) ?_
      refine WPE.gname O (ce.kind _ _ rfl (by intro z; cases z)) rfl (fun m as s I => vr_plain x O m as s I) ?_
      refine Op2.notInTup O (.flat (.str "int") rfl) (.flat plainPV rfl) (sh_str (by decide +kernel)) (in_plain (a := "int") (by decide +kernel)) ⟨_, rfl, fun h => absurd h (by decide +kernel), fun _ => ⟨fun z => (by cases z), fun _ => rfl⟩⟩
    · subst j
      refine WPE.list0 ?_
      exact Op2.eqD O (.list (get_app getNew) .nil) (.list getNew .nil) rfl rfl ⟨rfl, Keep.app.trans Keep.app⟩

theorem cl_followed (x : Px) {σ : List Cell} {l : Int} (h0 : 0 ≤ l) (h1 : l ≤ 6) : Cl (GG x) 2 228 [typ (.whole l)] σ fun p σ' => p = .bool (l != 5) ∧ Keep [] σ σ' := by
  rcases upto6 h0 h1 with rfl | rfl | rfl | rfl | rfl | rfl | rfl
  · exact cl_followed_byte x
  · exact cl_followed_byte x
  · exact cl_followed_byte x
  · exact cl_followed_byte x
  · exact cl_followed_pair x
  · exact cl_followed_ref x
  · exact cl_followed_byte x
theorem cl_const_init (x : Px) {σ : List Cell} {c cd bi lo bl sp : Nat} {bs : List Blk} (h1 : σ[c]? = some (.inst 396 cd)) (h2 : σ[cd]? = some (.names [])) (hbd : IsBody σ bi lo bl sp) (hlo : σ[lo]? = some (.list typesPV)) (hb : BB σ bl bs) (hr : ∀ b ∈ bs, b.2.1.length ≤ 20) (hn : bs.length ≤ 20) :
    Cl (GG x) 4 298 [.ref c, .ref bi] σ fun r σ' => r = .none ∧ ∃ fo be k0 Fo, CB σ' c bi fo be lo bl sp Fo ∧ BB σ' bl bs ∧ Begs σ' be (lentF Fo) bs [k0] ∧ be ≠ fo ∧ σ.length ≤ be ∧ (∀ l : Int, 0 ≤ l → l ≤ 6 → l ≠ 5 → lentF Fo l = lentOf bs l) ∧ Keep [cd] σ σ' := by
  have kb : ∀ {σ' : List Cell}, Keep [cd] σ σ' → IsBody σ' bi lo bl sp ∧ σ'[lo]? = some (.list typesPV) ∧ BB σ' bl bs ∧ σ'[c]? = some (.inst 396 cd) := fun kk => by
    obtain ⟨bd, b1, b2⟩ := hbd
    refine ⟨⟨bd, kk _ _ ?_ b1, kk _ _ ?_ b2⟩, kk _ _ ?_ hlo, hb.keep kk fun i hi l => ?_, kk _ _ ?_ h1⟩
    · simp only [List.mem_singleton]; rintro rfl; rw [h2] at b1; cases b1
    · simp only [List.mem_singleton]; rintro rfl; rw [h2] at b2; cases b2
    · simp only [List.mem_singleton]; rintro rfl; rw [h2] at hlo; cases hlo
    · rw [List.mem_singleton.mp hi, h2]; intro z; cases z
    · simp only [List.mem_singleton]; rintro rfl; rw [h2] at h1; cases h1
  have cdl := (List.getElem?_eq_some_iff.mp h2).1
  refine Cl.def (name := _) ["self", "body"] rfl rfl ?_ (by decide) (by decide) ?_
  · exact fun s vs _ h => vs2 (P := fun vs => BindsTo s _ ⟨vs, []⟩ (List.zip _ vs)) h fun _ _ => BindsTo.of_eq rfl
  · intro F O hs' hc
    refine WPS.cons ?_; refine WPX.setAttr ?_; refine WPE.name rfl ?_; refine WPE.name rfl ?_
    refine OpU.setAttr O h1 h2 ⟨by rfl, by rfl, by rfl, by rfl⟩ (by simp) ?_
    have k1 : Keep [cd] σ (σ.set cd (.names (nput "body" (.ref bi) []))) := Keep.set (by simp)
    have n1 := getSet (d := .names (nput "body" (.ref bi) [])) h2
    have len1 : (σ.set cd (.names (nput "body" (.ref bi) []))).length = σ.length := by simp
    generalize σ.set cd (.names (nput "body" (.ref bi) [])) = σ₁ at k1 n1 len1
    obtain ⟨hbd1, hlo1, hb1, hc1⟩ := kb k1
    refine WPS.assign O (kof hs' rfl) ?_; refine WPE.call O (fa := 235) (kof hs' rfl) rfl rfl ?_; refine WPL.args (by rfl) ?_
    refine Cl.u2prrrr (cl_lent x hbd1 hb1 hr hn) O ?_
    rintro d D σ₂ dl hd hD k2
    have kk2 : Keep [cd] σ σ₂ := k1.trans (k2.up (by simp))
    have n2 := k2 _ _ (by first | exact List.not_mem_nil | simp) n1
    obtain ⟨hbd2, hlo2, hb2, hc2⟩ := kb kk2
    refine WPS.cons ?_; refine WPX.setAttr ?_; refine WPE.dict0 O ?_; refine WPE.name rfl ?_
    refine OpU.setAttr O (get_app hc2) (get_app n2) ⟨by rfl, by rfl, by rfl, by rfl⟩ (by simp [nput]) ?_
    have cdd : cd ≠ d := by omega
    have l2 : σ.length ≤ σ₂.length := by have := (List.getElem?_eq_some_iff.mp hd).1; omega
    have dl2 : d < σ₂.length := (List.getElem?_eq_some_iff.mp hd).1
    have fo1 : ((σ₂ ++ [Cell.dict []]).set cd (.names (nput "followed" (.ref σ₂.length) (nput "body" (.ref bi) []))))[σ₂.length]? = some (.dict []) := getSetNe getNew (by omega)
    have n3 := getSet (d := .names (nput "followed" (.ref σ₂.length) (nput "body" (.ref bi) []))) (get_app (τ := [Cell.dict []]) n2)
    have k3 : Keep [cd] σ ((σ₂ ++ [Cell.dict []]).set cd (.names (nput "followed" (.ref σ₂.length) (nput "body" (.ref bi) [])))) := (kk2.trans Keep.app).trans (Keep.set (by simp))
    have hd3 : ((σ₂ ++ [Cell.dict []]).set cd (.names (nput "followed" (.ref σ₂.length) (nput "body" (.ref bi) []))))[d]? = some (.dict D) := getSetNe (get_app hd) cdd
    generalize (σ₂ ++ [Cell.dict []]).set cd (.names (nput "followed" (.ref σ₂.length) (nput "body" (.ref bi) []))) = σ₃ at fo1 n3 k3 hd3
    generalize hfo : σ₂.length = fo at fo1 n3 l2 dl2
    obtain ⟨hbd3, hlo3, hb3, hc3⟩ := kb k3
    obtain ⟨bd, b1, b2⟩ := hbd3
    refine WPS.cons (WPX.forS O (WPI.range O (kof hs' rfl) rfl ?_))
    refine WPE.bicall O (kof hs' rfl) rfl rfl (by decide) ?_; refine WPL.cons ?_; refine WPE.attr ?_; refine WPE.name rfl ?_
    refine Op1.attr O b1 b2 (by rfl) ⟨by rfl, by rfl, by rfl⟩ ?_
    refine WPL.nil ?_
    refine OpN.lenList hlo3 (by simp [typesPV]) ?_
    refine ⟨7, rfl, by decide, fun k σ' => Keep [cd] σ σ' ∧ σ'[cd]? = some (.names (nput "followed" (.ref fo) (nput "body" (.ref bi) []))) ∧ σ'[d]? = some (.dict D) ∧ ∃ Fo, σ'[fo]? = some (.dict Fo) ∧ Fo.length ≤ k ∧ ∀ l : Int, (dget Fo l).isSome = (decide (0 ≤ l) && decide (l < k) && (l != 5) && !lentOf bs l), ⟨k3, n3, hd3, [], fo1, by simp, fun l => by rw [show (dget ([] : Known) l).isSome = false from rfl]; by_cases q : 0 ≤ l <;> simp [q]; intro z; omega⟩, fun _ _ _ => trivial, fun k p σ' e j => ?_, fun σ' j => ?_⟩
    · obtain ⟨hk, rfl⟩ := upTo_at e
      obtain ⟨jk, jn, jd, Fo, jf, jl, jF⟩ := j
      obtain ⟨⟨bd, b1, b2⟩, hlo4, hb4, hc4⟩ := kb jk
      refine WPA.name O (kof hs' rfl) ?_
      have nextF : ∀ l : Int, l ≠ k → (decide (0 ≤ l) && decide (l < ((k + 1 : Nat) : Int)) && (l != 5) && !lentOf bs l) = (dget Fo l).isSome := fun l q => by
        rw [jF l, show decide (l < ((k + 1 : Nat) : Int)) = decide (l < (k : Int)) from decide_eq_decide.mpr (by omega)]
      have atK : (decide (0 ≤ (k : Int)) && decide ((k : Int) < ((k + 1 : Nat) : Int)) && ((k : Int) != 5) && !lentOf bs k) = (((k : Int) != 5) && !lentOf bs k) := by
        rw [decide_eq_true (show 0 ≤ (k : Int) by omega), decide_eq_true (show (k : Int) < ((k + 1 : Nat) : Int) by omega)]; simp
      have noK : (dget Fo k).isSome = false := by rw [jF]; simp
      refine WPS.ite ?_; refine WPB.bools ?_; refine WPBA.and ?_; refine WPB.plain ?_; refine WPE.call O (fa := 228) (kof hs' rfl) rfl rfl ?_; refine WPL.cons ?_; refine WPE.item ?_; refine WPE.item ?_; refine WPE.attr ?_; refine WPE.name rfl ?_
      refine Op1.attr O b1 b2 (by rfl) ⟨by rfl, by rfl, by rfl⟩ ?_
      refine WPE.name rfl ?_
      refine Op2.listAt hlo4 (by omega) (types_at (by omega) (by omega)) ?_ (by omega)
      refine WPE.cint ?_; refine Op2.tupAt (by rfl) (by rfl) ?_
      refine WPL.nil ?_
      refine Cl.u0pr (cl_followed x (by omega) (by omega)) O ?_
      rintro σ₅ k5
      have kk5 : Keep [cd] σ σ₅ := jk.trans (k5.up (by simp))
      have n5 := k5 _ _ (by first | exact List.not_mem_nil | simp) jn
      have d5 := k5 _ _ (by first | exact List.not_mem_nil | simp) jd
      have f5 := k5 _ _ (by first | exact List.not_mem_nil | simp) jf
      obtain ⟨_, _, _, hc5⟩ := kb kk5
      refine OpB.bool ⟨fun h5 => ?_, fun h5 => ?_⟩
      · refine WPBA.and ?_; refine WPB.cmp ?_; refine WPE.name rfl ?_; refine WPE.name rfl ?_
        refine Op2.notInDict d5 ?_
        refine ⟨_, rfl, fun h6 => ?_, fun h6 => ?_⟩
        · refine WPBA.andNil ⟨fun _ => ?_, fun h => by cases h⟩
          refine WPS.cons ?_; refine WPX.setItem ?_; refine WPE.cbool ?_; refine WPE.attr ?_; refine WPE.name rfl ?_
          refine Op1.attr O hc5 n5 (by rfl) ⟨by rfl, by rfl, by rfl⟩ ?_
          refine WPE.name rfl ?_
          refine OpU.dset f5 (by omega) ?_
          refine WPS.nil (WPS.nil ⟨Sub.cons rfl Sub.refl, kk5.setHi l2, getSetNe n5 (by omega), getSetNe d5 (by omega), _, getSet f5, ?_, fun l => ?_⟩)
          · have := dput_len (K := Fo) (l := (k : Int)) (p := .bool true); omega
          · rw [dput_some]
            by_cases q : l = (k : Int)
            · subst q
              rw [atK]
              rw [hD] at h6
              simp at h5 h6
              simp [h5, h6]
            · rw [nextF l q, show ((k : Int) == l) = false from by simpa using Ne.symm q]; simp
        · refine ⟨fun h => (by cases h), fun _ => ?_⟩
          refine WPS.nil (WPS.nil ⟨Sub.cons rfl Sub.refl, kk5, n5, d5, Fo, f5, by omega, fun l => ?_⟩)
          by_cases q : l = (k : Int)
          · subst q
            rw [atK, noK]
            rw [hD] at h6
            simp at h6
            simp [h6]
          · rw [nextF l q]
      · refine ⟨fun h => (by cases h), fun _ => ?_⟩
        refine WPS.nil (WPS.nil ⟨Sub.cons rfl Sub.refl, kk5, n5, d5, Fo, f5, by omega, fun l => ?_⟩)
        by_cases q : l = (k : Int)
        · subst q
          rw [atK, noK]
          simp at h5
          simp [h5]
        · rw [nextF l q]
    · obtain ⟨jk, jn, jd, Fo, jf, jl, jF⟩ := j
      obtain ⟨hbd4, hlo4, hb4, hc4⟩ := kb jk
      refine WPS.cons ?_; refine WPX.setAttr ?_
      refine WPE.dict1 O ?_
      refine WPE.dict0 O ?_
      refine ⟨get_app getNew, ?_⟩
      refine WPE.name rfl ?_
      have le' : fo < σ'.length := (List.getElem?_eq_some_iff.mp jf).1
      have cne : ∀ {i : Nat} {d : Cell}, σ'[i]? = some d → ((σ' ++ [Cell.dict []] ++ [Cell.dict []]).set σ'.length (.dict [((0 : Int), .ref (σ' ++ [Cell.dict []]).length)]))[i]? = some d := fun e => getSetNe (get_app (get_app e)) (by have := (List.getElem?_eq_some_iff.mp e).1; omega)
      have len7 : (σ' ++ [Cell.dict []]).length = σ'.length + 1 := by simp
      rw [len7] at cne ⊢
      have e0 : ((σ' ++ [Cell.dict []] ++ [Cell.dict []]).set σ'.length (.dict [((0 : Int), .ref (σ'.length + 1))]))[σ'.length]? = some (.dict [((0 : Int), .ref (σ'.length + 1))]) := getSet (get_app getNew)
      have e1 : ((σ' ++ [Cell.dict []] ++ [Cell.dict []]).set σ'.length (.dict [((0 : Int), .ref (σ'.length + 1))]))[σ'.length + 1]? = some (.dict []) := by
        refine getSetNe ?_ (by omega)
        rw [← len7]; exact getNew
      have k8 : Keep [cd] σ ((σ' ++ [Cell.dict []] ++ [Cell.dict []]).set σ'.length (.dict [((0 : Int), .ref (σ'.length + 1))])) := ((jk.trans Keep.app).trans Keep.app).setHi (by omega)
      have f8 := cne jf
      have n8 := cne jn
      generalize (σ' ++ [Cell.dict []] ++ [Cell.dict []]).set σ'.length (.dict [((0 : Int), .ref (σ'.length + 1))]) = σ₈ at e0 e1 k8 f8 n8
      obtain ⟨_, _, _, hc8⟩ := kb k8
      refine OpU.setAttr O hc8 n8 ⟨by rfl, by rfl, by rfl, by rfl⟩ (show (2 : Nat) ≤ 900 by decide) ?_
      have k9 : Keep [cd] σ (σ₈.set cd (.names (nput "begins" (.ref σ'.length) (nput "followed" (.ref fo) (nput "body" (.ref bi) []))))) := k8.trans (Keep.set (by simp))
      obtain ⟨hbd9, hlo9, hb9, hc9⟩ := kb k9
      refine WPS.nil ⟨rfl, fo, σ'.length, σ'.length + 1, Fo, ⟨⟨cd, hc9, getSet n8⟩, hbd9, hlo9, getSetNe f8 (by omega)⟩, hb9, ⟨getSetNe e0 (by omega), fun t i e => ?_⟩, by omega, by omega, fun l a b c => ?_, k9⟩
      · rcases t with _ | t
        · simp at e; subst e
          exact ⟨by omega, getSetNe e1 (by omega)⟩
        · simp at e
      · have := jF l
        have h7 : (upTo 7).length = 7 := rfl
        rw [h7] at this
        unfold lentF
        rw [this, decide_eq_true a, decide_eq_true (show l < ((7 : Nat) : Int) by omega)]
        simp [c]

theorem cl_body_init (x : Px) {σ : List Cell} {bi bd lt bl sp : Nat} (h1 : σ[bi]? = some (.inst 193 bd)) (h2 : σ[bd]? = some (.names [])) (h3 : σ[lt]? = some (.list typesPV)) :
    Cl (GG x) 2 147 [.ref bi, .str "g", .int 1, .ref lt, .ref bl, .ref sp] σ fun r σ' => r = .none ∧ IsBody σ' bi σ.length bl sp ∧ σ'[σ.length]? = some (.list typesPV) ∧ Keep [bd] σ σ' := by
  refine Cl.def (name := _) ["self", "name", "arg_count", "locals_told", "blocks", "spots"] rfl rfl ?_ (by decide) (by decide) ?_
  · exact fun s vs hX h => vs6 (P := fun vs => BindsTo s _ ⟨vs, []⟩ (List.zip _ vs)) h fun _ _ _ _ _ _ => by first | exact BindsTo.of_eq rfl | exact binds_K hX rfl (by rfl) rfl rfl rfl
  · intro F O hs' hc
    have bdi : bd ≠ bi := fun q => by rw [q, h1] at h2; cases h2
    have bdl := (List.getElem?_eq_some_iff.mp h2).1
    refine WPS.cons ?_; refine WPX.setAttr ?_; refine WPE.name rfl ?_; refine WPE.name rfl ?_
    refine OpU.setAttr O h1 h2 ⟨by rfl, by rfl, by rfl, by rfl⟩ (by simp) ?_
    have k1 : Keep [bd] σ (σ.set bd (.names (nput "name" (.str "g") []))) := Keep.set (by simp)
    have n1 := getSet (d := .names (nput "name" (.str "g") [])) h2
    have i1 := k1 _ _ (by simp; exact Ne.symm bdi) h1
    have len1 : (σ.set bd (.names (nput "name" (.str "g") []))).length = σ.length := by simp
    generalize σ.set bd (.names (nput "name" (.str "g") [])) = σ₁ at k1 n1 i1 len1
    refine WPS.cons ?_; refine WPX.setAttr ?_; refine WPE.name rfl ?_; refine WPE.name rfl ?_
    refine OpU.setAttr O i1 n1 ⟨by rfl, by rfl, by rfl, by rfl⟩ (show (1 : Nat) ≤ 900 by decide) ?_
    have k2 : Keep [bd] σ (σ₁.set bd (.names (nput "arg_count" (.int 1) (nput "name" (.str "g") [])))) := k1.trans (Keep.set (by simp))
    have n2 := getSet (d := .names (nput "arg_count" (.int 1) (nput "name" (.str "g") []))) n1
    have i2 := k2 _ _ (by simp; exact Ne.symm bdi) h1
    have len2 : (σ₁.set bd (.names (nput "arg_count" (.int 1) (nput "name" (.str "g") [])))).length = σ.length := by simp [len1]
    generalize σ₁.set bd (.names (nput "arg_count" (.int 1) (nput "name" (.str "g") []))) = σ₂ at k2 n2 i2 len2
    have l2 := k2 lt _ (by simp; rintro rfl; rw [h2] at h3; cases h3) h3
    refine WPS.cons ?_; refine WPX.setAttr ?_; refine WPE.tcall O (kof hs' rfl) rfl rfl (by decide) ?_; refine WPL.args (by rfl) ?_
    refine OpN.listOfList l2 (by simp [typesPV]) ?_
    refine WPE.name rfl ?_
    refine OpU.setAttr O (get_app i2) (get_app n2) ⟨by rfl, by rfl, by rfl, by rfl⟩ (show (2 : Nat) ≤ 900 by decide) ?_
    rw [len2]
    have lo3 : (σ₂ ++ [Cell.list typesPV])[σ.length]? = some (.list typesPV) := by rw [← len2]; exact getNew
    have k3 : Keep [bd] σ ((σ₂ ++ [Cell.list typesPV]).set bd (.names (nput "locals" (.ref σ.length) (nput "arg_count" (.int 1) (nput "name" (.str "g") []))))) := (k2.trans Keep.app).trans (Keep.set (by simp))
    have n3 := getSet (d := .names (nput "locals" (.ref σ.length) (nput "arg_count" (.int 1) (nput "name" (.str "g") [])))) (get_app (τ := [Cell.list typesPV]) n2)
    have lo3 := getSetNe (d := .names (nput "locals" (.ref σ.length) (nput "arg_count" (.int 1) (nput "name" (.str "g") [])))) lo3 (Nat.ne_of_lt bdl)
    generalize (σ₂ ++ [Cell.list typesPV]).set bd (.names (nput "locals" (.ref σ.length) (nput "arg_count" (.int 1) (nput "name" (.str "g") [])))) = σ₃ at k3 n3 lo3
    have i3 := k3 _ _ (by simp; exact Ne.symm bdi) h1
    refine WPS.cons ?_; refine WPX.setAttr ?_; refine WPE.ifexp ?_; refine WPB.cmp ?_; refine WPE.name rfl ?_; refine WPE.cnone ?_
    refine Op2.isNone ⟨_, rfl, fun h => (by cases h), fun _ => ?_⟩
    refine WPE.name rfl ?_; refine WPE.name rfl ?_
    refine OpU.setAttr O i3 n3 ⟨by rfl, by rfl, by rfl, by rfl⟩ (show (3 : Nat) ≤ 900 by decide) ?_
    have k4 : Keep [bd] σ (σ₃.set bd (.names (nput "blocks" (.ref bl) (nput "locals" (.ref σ.length) (nput "arg_count" (.int 1) (nput "name" (.str "g") [])))))) := k3.trans (Keep.set (by simp))
    have n4 := getSet (d := .names (nput "blocks" (.ref bl) (nput "locals" (.ref σ.length) (nput "arg_count" (.int 1) (nput "name" (.str "g") []))))) n3
    have lo4 := getSetNe (d := .names (nput "blocks" (.ref bl) (nput "locals" (.ref σ.length) (nput "arg_count" (.int 1) (nput "name" (.str "g") []))))) lo3 (Nat.ne_of_lt bdl)
    generalize σ₃.set bd (.names (nput "blocks" (.ref bl) (nput "locals" (.ref σ.length) (nput "arg_count" (.int 1) (nput "name" (.str "g") []))))) = σ₄ at k4 n4 lo4
    have i4 := k4 _ _ (by simp; exact Ne.symm bdi) h1
    refine WPS.cons ?_; refine WPX.setAttr ?_; refine WPE.ifexp ?_; refine WPB.cmp ?_; refine WPE.name rfl ?_; refine WPE.cnone ?_
    refine Op2.isNone ⟨_, rfl, fun h => (by cases h), fun _ => ?_⟩
    refine WPE.name rfl ?_; refine WPE.name rfl ?_
    refine OpU.setAttr O i4 n4 ⟨by rfl, by rfl, by rfl, by rfl⟩ (show (4 : Nat) ≤ 900 by decide) ?_
    refine WPS.nil ⟨rfl, ⟨bd, getSetNe i4 bdi, getSet n4⟩, getSetNe lo4 (Nat.ne_of_lt bdl), k4.trans (Keep.set (by simp))⟩

/-- the pool of draws, from the cells of the input -/
theorem cl_pool (x : Px) {σ : List Cell} {ns : List Int} : Cl (GG x) 2 414 [.lst (intsPV ns)] σ fun p σ' => ∃ j, p = .ref j ∧ σ.length ≤ j ∧ Src σ' j ∧ Keep [] σ σ' := by
  refine Cl.def (name := _) ["script"] rfl rfl ?_ (by decide) (by decide) ?_
  · exact fun s vs _ h => vs1 (P := fun vs => BindsTo s _ ⟨vs, []⟩ (List.zip _ vs)) h fun _ => BindsTo.of_eq rfl
  · intro F O hs' hc
    refine WPS.assign O (kof hs' rfl) ?_
    refine WPE.mono (Q := fun p σ' => (∃ c : Int, p = .int c) ∧ σ.length ≤ σ'.length ∧ Keep [] σ σ') ?_ ?_
    · refine WPE.ifexp ?_; refine WPB.cmp ?_; refine WPE.name rfl ?_; refine WPE.list0 ?_
      have fl : ∀ {l : List Int}, PV.flats (intsPV l) = true := fun {l} => by
        induction l with
        | nil => rfl
        | cons a l ih => simp [intsPV, PV.flats, PV.flat] at ih ⊢; exact ih
      have ds : ∀ {l : List Int}, PV.dats (intsPV l) = l.map .int := fun {l} => by
        induction l with
        | nil => rfl
        | cons a l ih => simp [intsPV, PV.dats, PV.dat] at ih ⊢; exact ih
      have sh : SeqAt.shaped (PV.lst (intsPV ns)).dat = true := by
        have lay := lay_ints (L := ns)
        have dp : ∀ l : List Int, PyData.depthAll (l.map PyData.int) ≤ 1 := fun l => by
          induction l with
          | nil => simp [PyData.depthAll]
          | cons a l ih => simp [PyData.depthAll, PyData.depth]; exact ih
        simp only [SeqAt.shaped, PV.dat, ds, PyData.canLay0, PyData.depth, lay, Bool.true_and, decide_eq_true_eq]
        have := dp ns
        omega
      refine Op2.neD O (.flat _ (by simpa [PV.flat] using fl)) (.list getNew .nil) sh rfl ⟨_, rfl, fun h => ?_, fun _ => ?_⟩
      · cases ns with
        | nil => exact absurd h (by simp [PV.dat, ds, PyData.eqv, PyData.eqvAll])
        | cons a l =>
          refine WPE.item ?_; refine WPE.name rfl ?_; refine WPE.cint ?_
          exact Op2.lstAt (by decide) (by rfl) ⟨⟨a, rfl⟩, by simp, Keep.app⟩
      · refine WPE.cint ?_
        exact ⟨⟨0, rfl⟩, by simp, Keep.app⟩
    rintro p σ₁ ⟨⟨c, rfl⟩, l₁, k₁⟩
    refine WPS.assign O (kof hs' rfl) ?_; refine WPE.bicall O (kof hs' rfl) rfl rfl (by decide) ?_; refine WPL.consN (by rfl) ?_; refine WPL.cons ?_; refine WPE.bin ?_; refine WPE.unary ?_; refine WPE.cint ?_
    refine Op1.neg ?_
    refine WPE.name rfl ?_
    refine Op2.sub (WPL.nil (OpN.max O ?_))
    have g0 : 0 ≤ (if -1 - c > c then -1 - c else c) := by split <;> omega
    generalize (if -1 - c > c then -1 - c else c) = g at g0
    refine WPS.ret ?_; refine WPE.list ?_; refine WPL.cons ?_
    refine WPE.mono (Q := fun p σ' => σ' = σ₁ ∧ ∃ g' : Int, p = .int g' ∧ 0 ≤ g') ?_ ?_
    · refine WPE.ifexp ?_; refine WPB.cmp ?_; refine WPE.name rfl ?_; refine WPE.bin ?_; refine WPE.cint ?_; refine WPE.cint ?_
      refine Op2.pow (by decide) (by decide) (by decide) ?_
      refine Op2.ge ⟨_, rfl, fun _ => ?_, fun _ => ?_⟩
      · refine WPE.name rfl ?_
        exact ⟨rfl, g, rfl, g0⟩
      · refine WPE.cint ?_
        exact ⟨rfl, 0, rfl, Int.le_refl _⟩
    rintro p σ₂ ⟨rfl, g', rfl, g1⟩
    refine WPL.cons ?_; refine WPE.bin ?_; refine WPE.bin ?_; refine WPE.bin ?_; refine WPE.bin ?_; refine WPE.name rfl ?_; refine WPE.cint ?_
    refine Op2.mod (by decide) ?_
    refine WPE.cint ?_
    refine Op2.add ?_
    refine WPE.cint ?_
    refine Op2.mul (IntMulOk.of_right (by decide)) ?_
    refine WPE.cint ?_
    refine Op2.mod (by decide) ?_
    refine WPL.nil ⟨by simp, _, rfl, l₁, ⟨g', _, getNew, g1, Int.fmod_nonneg_of_pos _ (by decide), Int.fmod_lt_of_pos _ (by decide)⟩, k₁.trans Keep.app⟩

noncomputable def lentRow : Row → Option Int
  | .lend q => some q.loc
  | _ => none
noncomputable def lentRows (rs : List Row) : List Int := rs.filterMap lentRow
noncomputable def lentList (bs : List Blk) : List Int := bs.flatMap fun b => lentRows b.2.1
noncomputable def mk (lent : Int → Bool) (K : Known) : List Row → List Row
  | [] => []
  | r :: rs => made K r :: mk lent (step lent K r) rs
theorem mk_snoc {lent : Int → Bool} : ∀ {rs : List Row} {K : Known} {r : Row}, mk lent K (rs ++ [r]) = mk lent K rs ++ [made (steps lent K rs) r]
  | [], _, _ => rfl
  | r' :: rs, K, r => by
    rw [List.cons_append]
    show made K r' :: mk lent (step lent K r') (rs ++ [r]) = _
    rw [mk_snoc (rs := rs)]; rfl
theorem mk_len {lent : Int → Bool} : ∀ {rs : List Row} {K : Known}, (mk lent K rs).length = rs.length
  | [], _ => rfl
  | r :: rs, K => by show (mk lent (step lent K r) rs).length + 1 = rs.length + 1; rw [mk_len (rs := rs)]
theorem lentRows_snoc {rs : List Row} {r : Row} : lentRows (rs ++ [r]) = lentRows rs ++ (lentRow r).toList := by
  unfold lentRows
  rw [List.filterMap_append]
  cases h : lentRow r <;> simp [List.filterMap, h]
theorem lent_inner {σ : List Cell} {L : List Int} {x : Int} : ((σ ++ [Cell.list (intsPV L)]).set σ.length (.list (intsPV L ++ [.int x]))) = σ ++ [Cell.list (intsPV (L ++ [x]))] := by
  rw [set_last]; simp [intsPV]

theorem blk_at {bs : List Blk} {k : Nat} {p : PV} (e : (bs.map Blk.pv)[k]? = some p) : ∃ b, bs[k]? = some b ∧ p = b.pv ∧ b ∈ bs ∧ bs.take (k + 1) = bs.take k ++ [b] := by
  rw [List.getElem?_map] at e
  obtain ⟨b, hb, rfl⟩ := Option.map_eq_some_iff.mp e
  exact ⟨b, hb, rfl, List.mem_of_getElem? hb, by rw [List.take_add_one, hb]; rfl⟩
/-- the law's blocks as they are due -/
noncomputable def dueOf (lent : Int → Bool) (bs : List Blk) (t : Nat) : List Row × End := match bs[t]? with
  | some b => (mk lent (beg lent bs t) b.2.1, endMade (steps lent (beg lent bs t) b.2.1) b.2.2)
  | none => ([], .ret)
theorem lentRows_len {rs : List Row} : (lentRows rs).length ≤ rs.length := List.length_filterMap_le _ _
theorem lentList_len : ∀ {bs : List Blk}, (∀ b ∈ bs, b.2.1.length ≤ 20) → (lentList bs).length ≤ 20 * bs.length
  | [], _ => by simp [lentList]
  | b :: bs, h => by
    have := lentList_len (bs := bs) fun c hc => h c (.tail _ hc)
    have h1 := h b (.head _)
    have h2 := lentRows_len (rs := b.2.1)
    show (lentRows b.2.1 ++ lentList bs).length ≤ _
    simp; omega
/-- the due blocks while they are made -/
structure Dm (σ σ' : List Cell) (f kd : Nat) (lent : Int → Bool) (bs ds : List Blk) (k : Nat) : Prop where
  keep : Keep [] σ σ'
  fl : σ'[f]? = some (.list (ds.map Blk.pv))
  rows : ∀ b ∈ ds, b.1 ≠ f ∧ b.1 ≠ kd ∧ σ'[b.1]? = some (.list (b.2.1.map Row.pv))
  kdd : σ'[kd]? = some (.dict (beg lent bs k))
  len : ds.length = k
  due : ∀ (t : Nat) (b : Blk), ds[t]? = some b → b.2 = dueOf lent bs t
theorem endMade_pv_call {K : Known} {o : Opd} {p : Plc} {n : Int} : (endMade K (.call o p n)).pv = .tup [.str "call", .tup [.str "fn", .str "f", .tup []], .tup [(told K o).pv], p.pv, .int n] := rfl
theorem cl_due (x : Px) {σ : List Cell} {j M : Nat} {bs : List Blk} (hb : Blks σ j bs) (hp : Path bs M) (hl : bs.length = M + 1) (hr : ∀ b ∈ bs, (∀ r ∈ b.2.1, r.ok) ∧ b.2.1.length ≤ 20) :
    Cl (GG x) 8 502 [.ref j] σ fun p σ' => ∃ f ds, p = .ref f ∧ σ.length ≤ f ∧ Blks σ' f ds ∧ ds.length = M + 1 ∧ (∀ t b, t < M → ds[t]? = some b → b.2 = dueOf (lentIn (lentList bs)) bs t) ∧ (∀ b, bs[M]? = some b → ds[M]? = some b) ∧ Keep [] σ σ' := by
  have jl := (List.getElem?_eq_some_iff.mp hb.1).1
  have hM := hp.2.1
  refine Cl.def (name := _) ["blocks"] rfl rfl ?_ (by decide) (by decide) ?_
  · exact fun s vs _ h => vs1 (P := fun vs => BindsTo s _ ⟨vs, []⟩ (List.zip _ vs)) h fun _ => BindsTo.of_eq rfl
  · intro F O hs' hc
    refine WPS.cons (WPX.comp2 O [] (kof hs' rfl) (N := fun ρ' σ' => _) ?_ (fun x p e => by cases e) (noFree rfl))
    refine WPI.list O ?_
    refine WPE.name rfl ?_
    refine ⟨j, _, rfl, hb.1, fun k σ' => σ' = σ ++ [.list (intsPV (lentList (bs.take k)))], rfl, fun k σ' e => e ▸ get_app hb.1, fun cenv ce k p σ' e jj => ?_, fun σ' e => ?_⟩
    · subst jj
      obtain ⟨b, eb, rfl, hm, et⟩ := blk_at e
      have hrows := hb.2 b hm
      obtain ⟨rk, rs, en⟩ := b
      refine WPA.tup O.hh ?_
      refine WPA.cname ce.nL (ce.kind _ _ rfl (by intro z; cases z)) ?_
      refine WPA.cname ce.nL (ce.kind _ _ rfl (by intro z; cases z)) ?_
      refine ⟨Sub.cons rfl (Sub.cons rfl Sub.refl), fun _ => ?_, fun z => by cases z⟩
      refine WPI.list O ?_
      refine WPE.name rfl ?_
      refine ⟨rk, _, rfl, get_app hrows, fun i σ' => σ' = σ ++ [.list (intsPV (lentList (bs.take k) ++ lentRows (rs.take i)))], by simp [lentRows], fun i σ' e => e ▸ get_app hrows, fun i p σ' er jj => ?_, fun σ' e => ?_⟩
      · subst jj
        obtain ⟨r, hr', rfl, hmr, etr⟩ := row_at er
        refine WPA.cname ce.nL (ce.kind _ _ rfl (by intro z; cases z)) ⟨Sub.cons rfl Sub.refl, ?_⟩
        have skip : lentRow r = none → σ ++ [Cell.list (intsPV (lentList (bs.take k) ++ lentRows (rs.take i)))] = σ ++ [Cell.list (intsPV (lentList (bs.take k) ++ lentRows (rs.take (i + 1))))] := fun h => by rw [etr, lentRows_snoc, h]; simp
        cases r with
        | print o =>
          refine WPB.bools ?_; refine WPBA.and ?_; refine WPB.nameTag (by rfl) (by rfl) (by rfl) ?_
          refine ⟨fun h => (by cases h), fun _ => ⟨fun z => (by cases z), fun _ => ⟨fun z => (by cases z), fun _ => skip rfl⟩⟩⟩
        | mark lv l =>
          refine WPB.bools ?_; refine WPBA.and ?_; refine WPB.nameTag (by rfl) (by rfl) (by rfl) ?_
          refine ⟨fun h => (by cases lv <;> cases h), fun _ => ⟨fun z => (by cases z), fun _ => ⟨fun z => (by cases z), fun _ => skip rfl⟩⟩⟩
        | use q o =>
          refine WPB.bools ?_; refine WPBA.and ?_; refine WPB.nameTag (by rfl) (by rfl) (by rfl) ?_
          refine ⟨fun _ => ?_, fun h => by cases h⟩
          refine WPBA.and ?_; refine WPB.cmp ?_; refine WPE.item ?_; refine WPE.nameAt (by rfl) (by rfl) (by rfl) ?_; refine WPE.cint ?_; refine Op2.tupAt (by rfl) (by rfl) ?_; refine WPE.cstr ?_
          refine Op2.eqS ⟨_, rfl, fun h => (by cases h), fun _ => ⟨fun z => (by cases z), fun _ => ⟨fun z => (by cases z), fun _ => skip rfl⟩⟩⟩
        | two a b =>
          refine WPB.bools ?_; refine WPBA.and ?_; refine WPB.nameTag (by rfl) (by rfl) (by rfl) ?_
          refine ⟨fun _ => ?_, fun h => by cases h⟩
          refine WPBA.and ?_; refine WPB.cmp ?_; refine WPE.item ?_; refine WPE.nameAt (by rfl) (by rfl) (by rfl) ?_; refine WPE.cint ?_; refine Op2.tupAt (by rfl) (by rfl) ?_; refine WPE.cstr ?_
          refine Op2.eqS ⟨_, rfl, fun h => (by cases h), fun _ => ⟨fun z => (by cases z), fun _ => ⟨fun z => (by cases z), fun _ => skip rfl⟩⟩⟩
        | lend q =>
          refine WPB.bools ?_; refine WPBA.and ?_; refine WPB.nameTag (by rfl) (by rfl) (by rfl) ?_
          refine ⟨fun _ => ?_, fun h => by cases h⟩
          refine WPBA.and ?_; refine WPB.cmp ?_; refine WPE.item ?_; refine WPE.nameAt (by rfl) (by rfl) (by rfl) ?_; refine WPE.cint ?_; refine Op2.tupAt (by rfl) (by rfl) ?_; refine WPE.cstr ?_
          refine Op2.eqS ⟨_, rfl, fun _ => ?_, fun h => by cases h⟩
          refine WPBA.andNil ⟨fun _ => ⟨fun _ => ?_, fun z => by cases z⟩, fun z => by cases z⟩
          refine WPE.item ?_; refine WPE.item ?_; refine WPE.nameAt (by rfl) (by rfl) (by rfl) ?_; refine WPE.cint ?_; refine Op2.tupAt (by rfl) (by rfl) ?_; refine WPE.cint ?_
          have fin : ∃ l, (σ ++ [Cell.list (intsPV (lentList (bs.take k) ++ lentRows (rs.take i)))])[σ.length]? = some (.list l) ∧ l.length ≤ 1000 ∧ (σ ++ [Cell.list (intsPV (lentList (bs.take k) ++ lentRows (rs.take i)))]).set σ.length (.list (l ++ [.int q.loc])) = σ ++ [Cell.list (intsPV (lentList (bs.take k) ++ lentRows (rs.take (i + 1))))] := by
            refine ⟨_, getNew, ?_, ?_⟩
            · have h1 := lentList_len (bs := bs.take k) fun b hb => (hr b (List.mem_of_mem_take hb)).2
              have h2 := lentRows_len (rs := rs.take i)
              have h3 : (rs.take i).length ≤ rs.length := List.length_take_le' ..
              have h4 := (hr _ hm).2
              have h5 : (bs.take k).length ≤ bs.length := List.length_take_le' ..
              have h4 : rs.length ≤ 20 := h4
              simp only [intsPV, List.length_map, List.length_append]
              omega
            · rw [lent_inner, etr, lentRows_snoc]
              simp [lentRow]
          cases q with
          | whole l => exact Op2.tupAt (by rfl) (by rfl) fin
          | part k => exact Op2.tupAt (by rfl) (by rfl) fin
      · subst e
        show _ = σ ++ [Cell.list (intsPV (lentList (bs.take (k + 1))))]
        rw [et, show (List.map Row.pv rs).length = rs.length by simp, List.take_length]
        simp [lentList]
    subst e
    rw [show (List.map Blk.pv bs).length = bs.length by simp, List.take_length]
    have hLd := getNew (σ := σ) (c := Cell.list (intsPV (lentList bs)))
    have k1 : Keep [] σ (σ ++ [Cell.list (intsPV (lentList bs))]) := Keep.app
    have l1 : σ.length < (σ ++ [Cell.list (intsPV (lentList bs))]).length := by simp
    generalize (lentList bs) = L at hLd k1 l1 ⊢
    generalize σ ++ [Cell.list (intsPV L)] = σ₁ at hLd k1 l1
    refine WPS.cons ?_
    refine WPX.swap O ["known", "found"] ?_ (by unfold swappedStores Env.blockKind Env.kindOf; rw [hs']; rfl) (by intro x hx; simp at hx; rcases hx with rfl | rfl <;> exact kof hs' rfl)
    refine WPE.tuple ?_; refine WPL.cons ?_; refine WPE.dict0 O ?_; refine WPL.cons ?_; refine WPE.list ?_; refine WPL.nil ?_
    refine ⟨by simp, WPL.nil ⟨by simp, _, rfl, rfl, ?_⟩⟩
    have dm0 : Dm σ (σ₁ ++ [Cell.dict []] ++ [Cell.list []]) (σ₁ ++ [Cell.dict []]).length σ₁.length (lentIn L) bs [] 0 := ⟨(k1.trans Keep.app).trans Keep.app, getNew, by simp, get_app getNew, rfl, by simp⟩
    have hLd2 : (σ₁ ++ [Cell.dict []] ++ [Cell.list []])[σ.length]? = some (.list (intsPV L)) := get_app (get_app hLd)
    have lf : (σ₁ ++ [Cell.dict []]).length = σ₁.length + 1 := by simp
    rw [lf] at dm0 ⊢
    have klen : σ.length < σ₁.length := l1
    generalize (σ₁ ++ [Cell.dict []] ++ [Cell.list []]) = σ₂ at dm0 hLd2
    generalize hkd : σ₁.length = kd at dm0 klen ⊢
    refine WPS.cons (WPX.forS O (WPI.list O ?_))
    refine WPE.listInit ?_
    refine WPE.name rfl ?_
    refine ⟨j, _, rfl, dm0.keep _ _ (by first | exact List.not_mem_nil | simp) hb.1, by simp; omega, ?_⟩
    have etake : (List.map Blk.pv bs).take ((List.map Blk.pv bs).length - 1) = (bs.take M).map Blk.pv := by
      rw [List.length_map, hl, List.map_take]; rfl
    rw [etake]
    refine ⟨_, _, rfl, getNew, fun k σ' => σ'[σ₂.length]? = some (.list ((bs.take M).map Blk.pv)) ∧ σ'[σ.length]? = some (.list (intsPV L)) ∧ ∃ ds, Dm σ σ' (kd + 1) kd (lentIn L) bs ds k, ⟨getNew, get_app hLd2, [], ?_⟩, fun k σ' jj => jj.1, fun k p σ' e jj => ?_, fun σ' jj => ?_⟩
    · exact ⟨dm0.keep.trans Keep.app, get_app dm0.fl, by simp, get_app dm0.kdd, rfl, by simp⟩
    · obtain ⟨b, eb', rfl, hm, _⟩ := blk_at e
      obtain ⟨jb, jL, ds, dm⟩ := jj
      have kM : k < M := by
        have := (List.getElem?_eq_some_iff.mp eb').1
        simp at this; omega
      have eb : bs[k]? = some b := by rw [List.getElem?_take, if_pos kM] at eb'; exact eb'
      obtain ⟨b2, eb2, hro, hrl, hen, hsu⟩ := hp.2.2 k kM
      rw [eb] at eb2; cases eb2
      have ok0 : KOk (beg (lentIn L) bs k) := beg_ok hp (by omega)
      have begS : ∀ K', K' = endK (steps (lentIn L) (beg (lentIn L) bs k) b.2.1) b.2.2 → K' = beg (lentIn L) bs (k + 1) := fun K' h => by
        rw [h]
        show _ = (match bs[k]? with | some b => _ | none => _)
        rw [eb]
      have dueS : dueOf (lentIn L) bs k = (mk (lentIn L) (beg (lentIn L) bs k) b.2.1, endMade (steps (lentIn L) (beg (lentIn L) bs k) b.2.1) b.2.2) := by
        unfold dueOf; rw [eb]
      have hrows := dm.keep _ _ (by first | exact List.not_mem_nil | simp) (hb.2 b (List.mem_of_getElem? eb))
      have kdl := (List.getElem?_eq_some_iff.mp dm.kdd).1
      have fl' := (List.getElem?_eq_some_iff.mp dm.fl).1
      obtain ⟨rk, rs, en⟩ := b
      generalize hK0 : beg (lentIn L) bs k = K0 at ok0 begS dueS
      have kdd := dm.kdd
      rw [hK0] at kdd
      refine WPA.tup O.hh ?_
      refine WPA.name O (kof hs' rfl) ?_
      refine WPA.name O (kof hs' rfl) ?_
      refine WPS.assign O (kof hs' rfl) ?_; refine WPE.list0 ?_
      have rkl := (List.getElem?_eq_some_iff.mp hrows).1
      refine WPS.cons (WPX.forS O (WPI.list O ?_))
      refine WPE.name rfl ?_
      refine ⟨rk, _, rfl, get_app hrows, fun i τ => Keep [kd] σ' τ ∧ τ[kd]? = some (.dict (steps (lentIn L) K0 (rs.take i))) ∧ τ[σ'.length]? = some (.list ((mk (lentIn L) K0 (rs.take i)).map Row.pv)), ⟨Keep.app, get_app kdd, getNew⟩, fun i τ jj => jj.1 _ _ (by simp; rintro rfl; rw [kdd] at hrows; cases hrows) hrows, fun i p τ er jj => ?_, fun τ jj => ?_⟩
      · obtain ⟨r, hr', rfl, hmr, etr⟩ := row_at er
        obtain ⟨tk, tkd, tmd⟩ := jj
        have oki : KOk (steps (lentIn L) K0 (rs.take i)) := steps_ok ok0 fun q hq => hro q (List.mem_of_mem_take hq)
        refine WPA.name O (kof hs' rfl) ?_
        refine WPS.cons ?_; refine WPX.expr ?_ (notInter O); refine WPE.bmeth (T := "list") PySem.F.plainAttrs_list PySem.F.slot_list_append PySem.F.type_list_append (.inl rfl) ?_; refine WPE.name rfl ?_
        refine ⟨_, _, rfl, tmd, rfl, ?_⟩
        refine WPL.cons ?_; refine WPE.call O (fa := 492) (kof hs' rfl) rfl rfl ?_; refine WPL.args (by rfl) ?_
        refine Cl.u0pr (cl_made x tkd oki (hro r hmr)) O ?_
        rintro τ1 q1
        refine WPL.nil ?_
        refine OpN.append (q1 _ _ (by first | exact List.not_mem_nil | simp) tmd) (by
          rw [List.length_map, mk_len]
          have h3 : (rs.take i).length ≤ rs.length := List.length_take_le' ..
          have hrl : rs.length ≤ 20 := hrl
          omega) ?_
        have tl : σ'.length < τ1.length := (List.getElem?_eq_some_iff.mp (q1 _ _ (by first | exact List.not_mem_nil | simp) tmd)).1
        have kd1 : (τ1.set σ'.length (.list ((mk (lentIn L) K0 (rs.take i)).map Row.pv ++ [(made (steps (lentIn L) K0 (rs.take i)) r).pv])))[kd]? = some (.dict (steps (lentIn L) K0 (rs.take i))) := getSetNe (q1 _ _ (by first | exact List.not_mem_nil | simp) tkd) (by omega)
        have L1 : (τ1.set σ'.length (.list ((mk (lentIn L) K0 (rs.take i)).map Row.pv ++ [(made (steps (lentIn L) K0 (rs.take i)) r).pv])))[σ.length]? = some (.list (intsPV L)) := getSetNe (q1 _ _ (by first | exact List.not_mem_nil | simp) (tk _ _ (by simp; omega) jL)) (by omega)
        refine WPS.cons (WPX.expr ?_ (notInter O))
        refine WPE.call O (fa := 497) (kof hs' rfl) rfl rfl ?_; refine WPL.args (by rfl) ?_
        refine Cl.u0rr (cl_behind x kd1 L1 oki (hro r hmr)) O ?_
        rintro p τ2 e2 q2
        refine WPS.nil ⟨Sub.cons rfl Sub.refl, ?_, ?_, ?_⟩
        · exact (Keep.setHi (tk.trans (q1.up (by simp))) (Nat.le_refl _)).trans q2
        · rw [etr, steps_snoc]; exact e2
        · rw [etr, mk_snoc, q2 σ'.length _ (by simp; omega) (getSet (q1 _ _ (by first | exact List.not_mem_nil | simp) tmd))]
          simp
      obtain ⟨tk, tkd, tmd⟩ := jj
      rw [show (List.map Row.pv rs).length = rs.length by simp, List.take_length] at tkd tmd
      have okS : KOk (steps (lentIn L) K0 rs) := steps_ok ok0 hro
      generalize hKS : steps (lentIn L) K0 rs = KS at okS tkd begS dueS
      have mdl := (List.getElem?_eq_some_iff.mp tmd).1
      refine WPS.cons (WPX.monoN (N := fun ρ' τ' => τ' = τ ∧ List.lookup ("end" : Str) ρ' = some (endMade KS en).pv ∧ List.lookup ("made" : Str) ρ' = some (.ref σ'.length) ∧ List.lookup ("found" : Str) ρ' = some (.ref (kd + 1)) ∧ List.lookup ("known" : Str) ρ' = some (.ref kd) ∧ Sub [((("known" : Str)), PV.ref kd), (("found" : Str), PV.ref (kd + 1)), (("lent" : Str), PV.ref σ.length), (("blocks" : Str), PV.ref j)] ρ') ?_ ?_)
      · cases en with
        | goto n =>
          refine WPX.ite ?_; refine WPB.nameTag (by rfl) (by rfl) (by rfl) ?_
          refine ⟨fun h => (by cases h), fun _ => ?_⟩
          exact WPS.nil ⟨rfl, rfl, rfl, rfl, rfl, Sub.cons rfl (Sub.cons rfl (Sub.cons rfl Sub.refl))⟩
        | ret =>
          refine WPX.ite ?_; refine WPB.nameTag (by rfl) (by rfl) (by rfl) ?_
          refine ⟨fun h => (by cases h), fun _ => ?_⟩
          exact WPS.nil ⟨rfl, rfl, rfl, rfl, rfl, Sub.cons rfl (Sub.cons rfl (Sub.cons rfl Sub.refl))⟩
        | drop q n =>
          refine WPX.ite ?_; refine WPB.nameTag (by rfl) (by rfl) (by rfl) ?_
          refine ⟨fun h => (by cases h), fun _ => ?_⟩
          exact WPS.nil ⟨rfl, rfl, rfl, rfl, rfl, Sub.cons rfl (Sub.cons rfl (Sub.cons rfl Sub.refl))⟩
        | call o q n =>
          refine WPX.ite ?_; refine WPB.nameTag (by rfl) (by rfl) (by rfl) ?_
          refine ⟨fun _ => ?_, fun h => by cases h⟩
          refine WPS.assign O (kof hs' rfl) ?_; refine WPE.tuple ?_; refine WPL.cons ?_; refine WPE.cstr ?_; refine WPL.cons ?_; refine WPE.nameAt (by rfl) (by rfl) (by rfl) ?_; refine WPL.cons ?_; refine WPE.tuple ?_; refine WPL.cons ?_; refine WPE.call O (fa := 487) (kof hs' rfl) rfl rfl ?_; refine WPL.consN (by rfl) ?_; refine WPL.cons ?_; refine WPE.item ?_; refine WPE.nameAt (by rfl) (by rfl) (by rfl) ?_; refine WPE.cint ?_; refine Op2.tupAt (by rfl) (by rfl) ?_; refine WPL.nil ?_
          refine Cl.op (Cl.mono (cl_told x tkd okS hen.1) ?_) (O.le (by decide))
          rintro p τ1 ⟨rfl, rfl⟩
          refine WPL.nil ⟨by simp, ?_⟩
          refine WPL.cons ?_; refine WPE.nameAt (by rfl) (by rfl) (by rfl) ?_; refine WPL.cons ?_; refine WPE.nameAt (by rfl) (by rfl) (by rfl) ?_; refine WPL.nil ?_
          refine ⟨by simp, WPS.nil ⟨rfl, rfl, rfl, rfl, rfl, Sub.cons rfl (Sub.cons rfl (Sub.cons rfl (Sub.cons rfl Sub.refl)))⟩⟩
      rintro ρ' τ' ⟨rfl, ne, nm, nf, nk, sb⟩
      have ffl := tk (kd + 1) _ (by simp) dm.fl
      refine WPS.cons (WPX.expr ?_ (notInter O))
      refine WPE.bmeth (T := "list") PySem.F.plainAttrs_list PySem.F.slot_list_append PySem.F.type_list_append (.inl rfl) ?_
      refine WPE.name nf ?_
      refine ⟨kd + 1, _, rfl, ffl, rfl, ?_⟩
      refine WPL.cons ?_; refine WPE.tuple ?_; refine WPL.cons ?_
      refine WPE.name nm ?_
      refine WPL.cons ?_
      refine WPE.name ne ?_
      refine WPL.nil ⟨by simp, WPL.nil ?_⟩
      have dlen := dm.len
      refine OpN.append ffl (by rw [List.length_map]; omega) ?_
      have kd2 : (τ'.set (kd + 1) (.list (ds.map Blk.pv ++ [.tup [.ref σ'.length, (endMade KS en).pv]])))[kd]? = some (.dict KS) := getSetNe tkd (by omega)
      have fin : ∀ {ρ₂ : PEnv} {τ2 : List Cell}, Keep [kd] (τ'.set (kd + 1) (.list (ds.map Blk.pv ++ [.tup [.ref σ'.length, (endMade KS en).pv]]))) τ2 → τ2[kd]? = some (.dict (endK KS en)) → τ2[σ₂.length]? = some (.list ((bs.take M).map Blk.pv)) ∧ τ2[σ.length]? = some (.list (intsPV L)) ∧ ∃ ds, Dm σ τ2 (kd + 1) kd (lentIn L) bs ds (k + 1) := by
        intro ρ₂ τ2 q hk2
        have s2 : kd + 1 < σ₂.length := (List.getElem?_eq_some_iff.mp dm0.fl).1
        have up : ∀ (i : Nat) (c : Cell), i ≠ kd → i ≠ kd + 1 → σ'[i]? = some c → τ2[i]? = some c := fun i c h1 h2 e => q i c (by simpa using h1) (getSetNe (tk i c (by simpa using h1) e) (Ne.symm h2))
        refine ⟨up _ _ (by omega) (by omega) jb, up _ _ (by omega) (by omega) jL, ds ++ [(σ'.length, mk (lentIn L) K0 rs, endMade KS en)], ⟨fun i c hi e => ?_, ?_, fun b hb => ?_, ?_, by simp [dlen], fun t b hb => ?_⟩⟩
        · have := (List.getElem?_eq_some_iff.mp e).1
          exact up i c (by omega) (by omega) (dm.keep i c hi e)
        · rw [q (kd + 1) _ (by simp) (getSet ffl)]
          simp [Blk.pv]
        · rcases List.mem_append.mp hb with hb | hb
          · obtain ⟨r1, r2, r3⟩ := dm.rows b hb
            exact ⟨r1, r2, up _ _ r2 r1 r3⟩
          · rw [List.mem_singleton.mp hb]
            refine ⟨by show σ'.length ≠ kd + 1; omega, by show σ'.length ≠ kd; omega, ?_⟩
            exact q _ _ (by simp; omega) (getSetNe tmd (by omega))
        · rw [hk2]
          exact congrArg (fun K => some (Cell.dict K)) (begS _ rfl)
        · by_cases z : t < ds.length
          · rw [List.getElem?_append_left z] at hb; exact dm.due t b hb
          · rw [List.getElem?_append_right (by omega)] at hb
            have h0 : t - ds.length = 0 := by
              have := (List.getElem?_eq_some_iff.mp hb).1
              simp at this; omega
            rw [h0] at hb
            simp at hb
            subst hb
            rw [show t = k by omega, dueS]
      generalize (τ'.set (kd + 1) (.list (ds.map Blk.pv ++ [.tup [.ref σ'.length, (endMade KS en).pv]]))) = τ1 at kd2 fin
      have kd3 : ∀ c : Cell, (τ1 ++ [c])[kd]? = some (.dict KS) := fun c => get_app kd2
      have KSl := okS.len
      refine WPS.ite ?_; refine WPB.cmp ?_; refine WPE.item ?_
      refine WPE.name ne ?_
      cases en with
      | goto n =>
        refine WPE.cint ?_; refine Op2.tupAt (by rfl) (by rfl) ?_; refine WPE.list ?_; refine WPL.args (by rfl) ?_
        refine ⟨by simp, ?_⟩
        refine Op2.inList O (.flat (.str "goto") rfl) (.list getNew (.cons (.flat _ rfl) (.cons (.flat _ rfl) .nil))) (sh_str (by decide +kernel)) (lay2 (by decide +kernel) (by decide +kernel)) ⟨_, rfl, fun h => absurd h (by decide +kernel), fun _ => ?_⟩
        exact WPS.nil (WPS.nil ⟨sb, fin (ρ₂ := []) Keep.app (kd3 _)⟩)
      | ret =>
        refine WPE.cint ?_; refine Op2.tupAt (by rfl) (by rfl) ?_; refine WPE.list ?_; refine WPL.args (by rfl) ?_
        refine ⟨by simp, ?_⟩
        refine Op2.inList O (.flat (.str "return") rfl) (.list getNew (.cons (.flat _ rfl) (.cons (.flat _ rfl) .nil))) (sh_str (by decide +kernel)) (lay2 (by decide +kernel) (by decide +kernel)) ⟨_, rfl, fun h => absurd h (by decide +kernel), fun _ => ?_⟩
        exact WPS.nil (WPS.nil ⟨sb, fin (ρ₂ := []) Keep.app (kd3 _)⟩)
      | drop q n =>
        refine WPE.cint ?_; refine Op2.tupAt (by rfl) (by rfl) ?_; refine WPE.list ?_; refine WPL.args (by rfl) ?_
        refine ⟨by simp, ?_⟩
        refine Op2.inList O (.flat (.str "drop") rfl) (.list getNew (.cons (.flat _ rfl) (.cons (.flat _ rfl) .nil))) (sh_str (by decide +kernel)) (lay2 (by decide +kernel) (by decide +kernel)) ⟨_, rfl, fun _ => ?_, fun h => absurd h (by decide +kernel)⟩
        refine WPS.cons (WPX.expr ?_ (notInter O))
        refine WPE.bmeth (T := "dict") PySem.F.plainAttrs_dict PySem.F.slot_dict_pop PySem.F.type_dict_pop (.inr rfl) ?_
        refine WPE.name nk ?_
        refine ⟨kd, _, rfl, kd3 _, rfl, ?_⟩
        refine WPL.cons ?_; refine WPE.ifexp ?_; refine WPB.cmp ?_; refine WPE.item ?_
        refine WPE.name ne ?_
        refine WPE.cint ?_; refine Op2.tupAt (by rfl) (by rfl) ?_; refine WPE.cstr ?_
        refine Op2.eqS ⟨_, rfl, fun h => (by cases h), fun _ => ?_⟩
        refine WPE.item ?_; refine WPE.item ?_
        refine WPE.name ne ?_
        cases q with
        | whole l =>
          refine WPE.cint ?_; refine Op2.tupAt (by rfl) (by rfl) ?_; refine WPE.cint ?_; refine Op2.tupAt (by rfl) (by rfl) ?_; refine WPL.cons ?_; refine WPE.cnone ?_; refine WPL.nil ?_
          refine OpN.dictPop (kd3 _) (by omega) ?_
          exact WPS.nil (WPS.nil ⟨sb, fin (ρ₂ := []) (Keep.app.trans (Keep.set (by simp))) (getSet (kd3 _))⟩)
        | part l =>
          refine WPE.cint ?_; refine Op2.tupAt (by rfl) (by rfl) ?_; refine WPE.cint ?_; refine Op2.tupAt (by rfl) (by rfl) ?_; refine WPL.cons ?_; refine WPE.cnone ?_; refine WPL.nil ?_
          refine OpN.dictPop (kd3 _) (by omega) ?_
          exact WPS.nil (WPS.nil ⟨sb, fin (ρ₂ := []) (Keep.app.trans (Keep.set (by simp))) (getSet (kd3 _))⟩)
      | call o q n =>
        refine WPE.cint ?_; refine Op2.tupAt (by rfl) (by rfl) ?_; refine WPE.list ?_; refine WPL.args (by rfl) ?_
        refine ⟨by simp, ?_⟩
        refine Op2.inList O (.flat (.str "call") rfl) (.list getNew (.cons (.flat _ rfl) (.cons (.flat _ rfl) .nil))) (sh_str (by decide +kernel)) (lay2 (by decide +kernel) (by decide +kernel)) ⟨_, rfl, fun _ => ?_, fun h => absurd h (by decide +kernel)⟩
        refine WPS.cons (WPX.expr ?_ (notInter O))
        refine WPE.bmeth (T := "dict") PySem.F.plainAttrs_dict PySem.F.slot_dict_pop PySem.F.type_dict_pop (.inr rfl) ?_
        refine WPE.name nk ?_
        refine ⟨kd, _, rfl, kd3 _, rfl, ?_⟩
        refine WPL.cons ?_; refine WPE.ifexp ?_; refine WPB.cmp ?_; refine WPE.item ?_
        refine WPE.name ne ?_
        refine WPE.cint ?_; refine Op2.tupAt (by rfl) (by rfl) ?_; refine WPE.cstr ?_
        refine Op2.eqS ⟨_, rfl, fun _ => ?_, fun h => by cases h⟩
        refine WPE.item ?_; refine WPE.item ?_
        refine WPE.name ne ?_
        cases q with
        | whole l =>
          refine WPE.cint ?_; refine Op2.tupAt (by rfl) (by rfl) ?_; refine WPE.cint ?_; refine Op2.tupAt (by rfl) (by rfl) ?_; refine WPL.cons ?_; refine WPE.cnone ?_; refine WPL.nil ?_
          refine OpN.dictPop (kd3 _) (by omega) ?_
          exact WPS.nil (WPS.nil ⟨sb, fin (ρ₂ := []) (Keep.app.trans (Keep.set (by simp))) (getSet (kd3 _))⟩)
        | part l =>
          refine WPE.cint ?_; refine Op2.tupAt (by rfl) (by rfl) ?_; refine WPE.cint ?_; refine Op2.tupAt (by rfl) (by rfl) ?_; refine WPL.cons ?_; refine WPE.cnone ?_; refine WPL.nil ?_
          refine OpN.dictPop (kd3 _) (by omega) ?_
          exact WPS.nil (WPS.nil ⟨sb, fin (ρ₂ := []) (Keep.app.trans (Keep.set (by simp))) (getSet (kd3 _))⟩)
    · obtain ⟨_, _, ds, dm⟩ := jj
      have hMlt : M < bs.length := by omega
      have eM := List.getElem?_eq_getElem hMlt
      have hmm := List.mem_of_getElem? eM
      have lenT : (List.map Blk.pv (bs.take M)).length = M := by simp; omega
      rw [lenT] at dm
      have dlen := dm.len
      have hbl := dm.keep _ _ (by first | exact List.not_mem_nil | simp) hb.1
      have sle : σ.length ≤ σ'.length := Nat.le_of_not_lt fun q => by
        have := dm.keep.len (i := σ'.length) (by simp) q
        omega
      refine WPS.ret ?_; refine WPE.bin ?_; refine WPE.name rfl ?_; refine WPE.list ?_; refine WPL.cons ?_; refine WPE.item ?_; refine WPE.name rfl ?_; refine WPE.unary ?_; refine WPE.cint ?_
      refine Op1.neg ?_
      refine Op2.listNeg (p := (bs[M]).pv) hbl (by decide) (by simp; omega) ?_ ?_
      · rw [show ((-1 + ((List.map Blk.pv bs).length : Int)).toNat) = M by simp; omega, List.getElem?_map, eM]; rfl
      refine WPL.nil ⟨by simp, ?_⟩
      refine Op2.addL (get_app dm.fl) getNew (by simp; omega) ?_
      refine ⟨_, ds ++ [bs[M]], rfl, by simp; omega, ⟨?_, fun b hb' => ?_⟩, by simp [dlen], fun t b tM e => ?_, fun b e => ?_, (dm.keep.trans Keep.app).trans Keep.app⟩
      · rw [getNew]; simp
      · rcases List.mem_append.mp hb' with h | h
        · exact get_app (get_app (dm.rows b h).2.2)
        · rw [List.mem_singleton.mp h]
          exact get_app (get_app (dm.keep _ _ (by first | exact List.not_mem_nil | simp) (hb.2 _ hmm)))
      · rw [List.getElem?_append_left (by omega)] at e
        exact dm.due t b e
      · rw [eM] at e; cases e
        rw [List.getElem?_append_right (by omega), show M - ds.length = 0 by omega]; rfl

theorem new_at {σ : List Cell} {C : Addr} : (σ ++ [Cell.names []] ++ [Cell.inst C σ.length])[σ.length + 1]? = some (.inst C σ.length) := by
  have := getNew (σ := σ ++ [Cell.names []]) (c := Cell.inst C σ.length)
  rw [show (σ ++ [Cell.names []]).length = σ.length + 1 by simp] at this
  exact this
theorem body_new (x : Px) {F : FX} {n : Nat} (O : F.Ok (GG x) n) (hn : 2 ≤ n) {σ : List Cell} {lt bl sp : Nat} (h3 : σ[lt]? = some (.list typesPV)) {Q : PV → List Cell → Prop}
    (h : ∀ σ', IsBody σ' (σ.length + 1) (σ.length + 2) bl sp → σ'[σ.length + 2]? = some (.list typesPV) → Keep [] σ σ' → Q (.ref (σ.length + 1)) σ') :
    OpN (GG x) F σ [.str "g", .int 1, .ref lt, .ref bl, .ref sp] (fun vs => PySem.call (.ref 193) vs) Q := by
  refine OpN.new (fI := 147) (O.le hn) ⟨by rfl, by rfl, by rfl⟩ (Cl.mono (cl_body_init x (bi := σ.length + 1) (bd := σ.length) new_at (get_app getNew) (get_app (get_app h3))) ?_)
  rintro r σ' ⟨rfl, hb, hlo, k⟩
  rw [show (σ ++ [Cell.names []] ++ [Cell.inst 193 σ.length]).length = σ.length + 2 by simp] at hb hlo
  exact ⟨rfl, h σ' hb hlo ((Keep.app.trans Keep.app).hi k (Nat.le_refl _))⟩
theorem const_new (x : Px) {F : FX} {n : Nat} (O : F.Ok (GG x) n) (hn : 4 ≤ n) {σ : List Cell} {bi lo bl sp : Nat} {bs : List Blk} (hbd : IsBody σ bi lo bl sp) (hlo : σ[lo]? = some (.list typesPV)) (hb : BB σ bl bs) (hr : ∀ b ∈ bs, b.2.1.length ≤ 20) (hl : bs.length ≤ 20) {Q : PV → List Cell → Prop}
    (h : ∀ σ' fo be k0 Fo, CB σ' (σ.length + 1) bi fo be lo bl sp Fo → BB σ' bl bs → Begs σ' be (lentF Fo) bs [k0] → be ≠ fo → σ.length ≤ be → (∀ l : Int, 0 ≤ l → l ≤ 6 → l ≠ 5 → lentF Fo l = lentOf bs l) → Keep [] σ σ' → Q (.ref (σ.length + 1)) σ') :
    OpN (GG x) F σ [.ref bi] (fun vs => PySem.call (.ref 396) vs) Q := by
  have k0 : Keep [] σ (σ ++ [Cell.names []] ++ [Cell.inst 396 σ.length]) := Keep.app.trans Keep.app
  obtain ⟨bd, b1, b2⟩ := hbd
  refine OpN.new (fI := 298) (O.le hn) ⟨by rfl, by rfl, by rfl⟩ (Cl.mono (cl_const_init x (c := σ.length + 1) (cd := σ.length) new_at (get_app getNew) ⟨bd, k0 _ _ (by first | exact List.not_mem_nil | simp) b1, k0 _ _ (by first | exact List.not_mem_nil | simp) b2⟩ (k0 _ _ (by first | exact List.not_mem_nil | simp) hlo) (hb.keep k0 (by simp)) hr hl) ?_)
  rintro r σ' ⟨rfl, fo, be, kk, Fo, q1, q2, q3, q4, q5, q6, q7⟩
  exact ⟨rfl, h σ' fo be kk Fo q1 q2 q3 q4 (by simp at q5; omega) q6 (k0.hi q7 (Nat.le_refl _))⟩
/-- the three ways of telling what is lent agree -/
theorem lent_agree {bs : List Blk} {l : Int} : lentIn (lentList bs) l = lentOf bs l := by
  unfold lentIn lentList lentOf
  rw [Bool.eq_iff_iff]
  simp only [List.contains_iff_mem, List.mem_flatMap, List.any_eq_true, lentRows, List.mem_filterMap]
  constructor
  · rintro ⟨b, hb, r, hr, e⟩
    refine ⟨b, hb, r, hr, ?_⟩
    cases r <;> simp [lentRow, lendAt] at e ⊢
    exact e
  · rintro ⟨b, hb, r, hr, e⟩
    refine ⟨b, hb, r, hr, ?_⟩
    cases r <;> simp [lentRow, lendAt] at e ⊢
    exact e
theorem step_congr {lent lent' : Int → Bool} {K : Known} {r : Row} (h : ∀ l, l = 2 ∨ l = 3 ∨ l = 4 ∨ l = 6 → lent l = lent' l) (hr : r.ok) : step lent K r = step lent' K r := by
  match r, hr with
  | .use (.whole l) o, hr =>
    have hl : l = 2 ∨ l = 3 ∨ l = 6 := hr.1
    simp only [step]
    rw [h l (by omega)]
  | .use (.part _) _, _ => rfl
  | .two a b, _ => simp only [step]; rw [h 4 (by omega)]
  | .print _, _ => rfl
  | .mark _ _, _ => rfl
  | .lend _, _ => rfl
theorem steps_congr {lent lent' : Int → Bool} (h : ∀ l, l = 2 ∨ l = 3 ∨ l = 4 ∨ l = 6 → lent l = lent' l) : ∀ {rs : List Row} {K : Known}, (∀ r ∈ rs, r.ok) → steps lent K rs = steps lent' K rs
  | [], _, _ => rfl
  | r :: rs, K, hr => by
    show steps lent (step lent K r) rs = steps lent' (step lent' K r) rs
    rw [step_congr h (hr r (.head _)), steps_congr h fun q hq => hr q (.tail _ hq)]
theorem mk_congr {lent lent' : Int → Bool} (h : ∀ l, l = 2 ∨ l = 3 ∨ l = 4 ∨ l = 6 → lent l = lent' l) : ∀ {rs : List Row} {K : Known}, (∀ r ∈ rs, r.ok) → mk lent K rs = mk lent' K rs
  | [], _, _ => rfl
  | r :: rs, K, hr => by
    show made K r :: mk lent (step lent K r) rs = made K r :: mk lent' (step lent' K r) rs
    rw [step_congr h (hr r (.head _)), mk_congr h fun q hq => hr q (.tail _ hq)]
theorem beg_congr {lent lent' : Int → Bool} {bs : List Blk} {M : Nat} (hp : Path bs M) (h : ∀ l, l = 2 ∨ l = 3 ∨ l = 4 ∨ l = 6 → lent l = lent' l) : ∀ {t : Nat}, t ≤ M → beg lent bs t = beg lent' bs t
  | 0, _ => rfl
  | t + 1, ht => by
    obtain ⟨b, e, hr, _⟩ := hp.2.2 t (by omega)
    unfold beg
    rw [e]
    show endK (steps lent (beg lent bs t) b.2.1) b.2.2 = endK (steps lent' (beg lent' bs t) b.2.1) b.2.2
    rw [beg_congr hp h (by omega), steps_congr h hr]
theorem due_congr {lent lent' : Int → Bool} {bs : List Blk} {M t : Nat} (hp : Path bs M) (h : ∀ l, l = 2 ∨ l = 3 ∨ l = 4 ∨ l = 6 → lent l = lent' l) (ht : t < M) : dueOf lent bs t = dueOf lent' bs t := by
  obtain ⟨b, e, hr, _⟩ := hp.2.2 t ht
  unfold dueOf
  rw [e]
  show (mk lent (beg lent bs t) b.2.1, endMade (steps lent (beg lent bs t) b.2.1) b.2.2) = (mk lent' (beg lent' bs t) b.2.1, endMade (steps lent' (beg lent' bs t) b.2.1) b.2.2)
  rw [beg_congr hp h (by omega), steps_congr h hr, mk_congr h hr]
/-- the law's blocks make a path -/
theorem WellB.path {bs : List Blk} (h : WellB bs) : ∃ M, bs.length = M + 1 ∧ Path bs M ∧ ∀ b ∈ bs, (∀ r ∈ b.2.1, r.ok) ∧ b.2.1.length ≤ 20 := by
  obtain ⟨M, hl, h2, h5, hg⟩ := h
  refine ⟨M, hl, ⟨by omega, by omega, fun t ht => ?_⟩, fun b hb => ?_⟩
  · have e := List.getElem?_eq_getElem (l := bs) (show t < bs.length by omega)
    obtain ⟨g1, g2, g3, g4, _⟩ := hg t _ e
    refine ⟨_, e, g1, by omega, ?_⟩
    by_cases q : t + 1 < M
    · obtain ⟨eo, en⟩ := g3 q
      rw [if_pos q]
      generalize (bs[t]).2.2 = en' at eo en
      cases en' with
      | goto k => have eo : k = (t : Int) + 1 := eo; exact ⟨trivial, by show [k] = _; rw [eo]; rfl⟩
      | call o p k => have eo : o.ok ∧ p.ok ∧ k = (t : Int) + 1 := eo; exact ⟨⟨eo.1, eo.2.1⟩, by show [k] = _; rw [eo.2.2]; rfl⟩
      | drop p k => have eo : p.ok ∧ k = (t : Int) + 1 := eo; exact ⟨eo.1, by show [k] = _; rw [eo.2]; rfl⟩
      | ret => exact absurd rfl en
    · rw [if_neg q, g4 (by omega)]
      exact ⟨trivial, rfl⟩
  · obtain ⟨t, ht, e⟩ := List.getElem_of_mem hb
    obtain ⟨g1, g2, _⟩ := hg t b (by rw [List.getElem?_eq_getElem ht, e])
    exact ⟨g1, by omega⟩

noncomputable def spotsT : List (List Int × PV) := [([0, 0], .int 5), ([1, 0], .int 6)]
theorem spots_hash (x : Px) : (spotsT.map fun y => tupleKeyHash (intKind (GG x).prog (GG x).w) y.1).Nodup := by
  show [tupleKeyHash (intKind (GG x).prog (GG x).w) [0, 0], tupleKeyHash (intKind (GG x).prog (GG x).w) [1, 0]].Nodup
  have e1 : tupleKeyHash (intKind (GG x).prog (GG x).w) [0, 0] = reduceHash (Builtin.Tuple.tupleHashOf ([0, 0].map hashInt)) := rfl
  have e2 : tupleKeyHash (intKind (GG x).prog (GG x).w) [1, 0] = reduceHash (Builtin.Tuple.tupleHashOf ([1, 0].map hashInt)) := rfl
  rw [e1, e2]
  decide +kernel
/-- blocks newly made: their list stands below their cells -/
noncomputable def BH (σ : List Cell) (bl : Nat) (bs : List Blk) : Prop := ∃ ks : List Nat, ks.length = bs.length ∧ σ[bl]? = some (.list (ks.map PV.ref)) ∧ ∀ (t k : Nat) (b : Blk), ks[t]? = some k → bs[t]? = some b → bl < k ∧ bl < b.1 ∧ σ[k]? = some (.list [.ref b.1, b.2.2.pv]) ∧ σ[b.1]? = some (.list (b.2.1.map Row.pv))
theorem BH.bb {σ : List Cell} {bl : Nat} {bs : List Blk} (h : BH σ bl bs) : BB σ bl bs := by
  obtain ⟨ks, hl, h1, h2⟩ := h
  exact ⟨ks, hl, h1, fun t k b e e' => (h2 t k b e e').2.2⟩
theorem BH.keep {S : List Nat} {σ σ' : List Cell} {bl : Nat} {bs : List Blk} (h : BH σ bl bs) (k : Keep S σ σ') (n : ∀ i ∈ S, i < bl ∨ σ.length ≤ i) : BH σ' bl bs := by
  obtain ⟨ks, hl, h1, h2⟩ := h
  have go : ∀ {i : Nat} {c : Cell}, bl ≤ i → σ[i]? = some c → σ'[i]? = some c := fun {i c} hi e => k i c (fun q => by
    have := (List.getElem?_eq_some_iff.mp e).1
    rcases n i q with q | q <;> omega) e
  refine ⟨ks, hl, go (Nat.le_refl _) h1, fun t i b e e' => ?_⟩
  obtain ⟨g1, g2, g3, g4⟩ := h2 t i b e e'
  exact ⟨g1, g2, go (Nat.le_of_lt g1) g3, go (Nat.le_of_lt g2) g4⟩
theorem BH.push {σ σ' : List Cell} {bl r k : Nat} {ms : List Blk} {rs : List Row} {e : End} (h : BH σ bl ms) (kk : Keep [] σ σ') (hr : σ'[r]? = some (.list (rs.map Row.pv))) (hk : σ'[k]? = some (.list [.ref r, e.pv])) (r1 : bl < r) (k1 : bl < k) :
    ∃ l, σ'[bl]? = some (.list l) ∧ l.length = ms.length ∧ BH (σ'.set bl (.list (l ++ [.ref k]))) bl (ms ++ [(r, rs, e)]) := by
  obtain ⟨ks, hl, h1, h2⟩ := h.keep kk (by simp)
  refine ⟨_, h1, by simp [hl], ks ++ [k], by simp [hl], ?_, fun t i b e1 e2 => ?_⟩
  · rw [getSet h1]; simp
  · by_cases q : t < ms.length
    · rw [List.getElem?_append_left (by omega)] at e1
      rw [List.getElem?_append_left q] at e2
      obtain ⟨g1, g2, g3, g4⟩ := h2 t i b e1 e2
      exact ⟨g1, g2, getSetNe g3 (by omega), getSetNe g4 (by omega)⟩
    · rw [List.getElem?_append_right (by omega)] at e1
      rw [List.getElem?_append_right (by omega)] at e2
      have h0 : t - ms.length = 0 := by
        have := (List.getElem?_eq_some_iff.mp e2).1
        simp at this; omega
      rw [hl, h0] at e1
      rw [h0] at e2
      simp at e1 e2
      subst e1 e2
      exact ⟨k1, r1, getSetNe hk (by omega), getSetNe hr (by show bl ≠ r; omega)⟩
theorem BH.put {σ σ' : List Cell} {bl r k t : Nat} {ms : List Blk} {rs : List Row} {e : End} (h : BH σ bl ms) (kk : Keep [] σ σ') (hr : σ'[r]? = some (.list (rs.map Row.pv))) (hk : σ'[k]? = some (.list [.ref r, e.pv])) (r1 : bl < r) (k1 : bl < k) :
    ∃ l, σ'[bl]? = some (.list l) ∧ l.length = ms.length ∧ BH (σ'.set bl (.list (l.set t (.ref k)))) bl (ms.set t (r, rs, e)) := by
  obtain ⟨ks, hl, h1, h2⟩ := h.keep kk (by simp)
  refine ⟨_, h1, by simp [hl], ks.set t k, by simp [hl], ?_, fun t' i b e1 e2 => ?_⟩
  · rw [getSet h1, List.map_set]
  · by_cases q : t = t'
    · subst q
      have q1 := (List.getElem?_eq_some_iff.mp e1).1
      have q2 := (List.getElem?_eq_some_iff.mp e2).1
      rw [List.length_set] at q1 q2
      rw [List.getElem?_set_self q1] at e1
      rw [List.getElem?_set_self q2] at e2
      cases e1; cases e2
      exact ⟨k1, r1, getSetNe hk (by omega), getSetNe hr (by show bl ≠ r; omega)⟩
    · rw [List.getElem?_set_ne q] at e1 e2
      obtain ⟨g1, g2, g3, g4⟩ := h2 t' i b e1 e2
      exact ⟨g1, g2, getSetNe g3 (by omega), getSetNe g4 (by omega)⟩
theorem take_snd {bs : List Blk} {k : Nat} {b : Blk} (e : bs[k]? = some b) : (bs.take (k + 1)).map (·.2) = (bs.take k).map (·.2) ++ [b.2] := by
  rw [List.take_add_one, e]; simp
theorem BB.list {σ : List Cell} {bl : Nat} {bs : List Blk} (h : BB σ bl bs) : ∃ ks : List Nat, ks.length = bs.length ∧ σ[bl]? = some (.list (ks.map PV.ref)) := by
  obtain ⟨ks, hl, h1, _⟩ := h; exact ⟨ks, hl, h1⟩
theorem BB.elt {σ : List Cell} {bl k : Nat} {bs : List Blk} (h : BB σ bl bs) {ks : List Nat} {p : PV} (h1 : σ[bl]? = some (.list (ks.map PV.ref))) (e : (ks.map PV.ref)[k]? = some p) : ∃ i b, p = .ref i ∧ bs[k]? = some b ∧ σ[i]? = some (.list [.ref b.1, b.2.2.pv]) ∧ σ[b.1]? = some (.list (b.2.1.map Row.pv)) := by
  obtain ⟨ks', hl, h2, h3⟩ := h
  rw [h1] at h2
  have e2 : ks.map PV.ref = ks'.map PV.ref := by injection h2 with h2; injection h2
  rw [e2] at e
  rw [List.getElem?_map] at e
  obtain ⟨i, hi, rfl⟩ := Option.map_eq_some_iff.mp e
  have hk : k < bs.length := by rw [← hl]; exact (List.getElem?_eq_some_iff.mp hi).1
  have eb := List.getElem?_eq_getElem hk
  obtain ⟨g1, g2⟩ := h3 k i _ hi eb
  exact ⟨i, _, rfl, eb, g1, g2⟩
/-- a Body that is nothing's part but its own -/
structure NewBody (σ : List Cell) (mi lo bl sp N : Nat) (ms : List Blk) : Prop where
  body : IsBody σ mi lo bl sp
  tys : σ[lo]? = some (.list typesPV)
  spo : σ[sp]? = some (.tdict spotsT)
  bh : BH σ bl ms
  nlo : N ≤ lo
  nbl : N ≤ bl
  nsp : N ≤ sp
  lne : lo ≠ bl
theorem cl_copied (x : Px) {σ : List Cell} {bi lo bl sp : Nat} {bs : List Blk} (hbd : IsBody σ bi lo bl sp) (hlo : σ[lo]? = some (.list typesPV)) (hsp : σ[sp]? = some (.tdict spotsT)) (hb : BB σ bl bs) (hr : ∀ b ∈ bs, b.2.1.length ≤ 20) (hn : bs.length ≤ 20) :
    Cl (GG x) 4 207 [.ref bi] σ fun p σ' => ∃ mi lo' bl' sp' ms, p = .ref mi ∧ NewBody σ' mi lo' bl' sp' σ.length ms ∧ ms.map (·.2) = bs.map (·.2) ∧ Keep [] σ σ' := by
  obtain ⟨bd, b1, b2⟩ := id hbd
  obtain ⟨ks, hkl, hkb⟩ := hb.list
  refine Cl.def (name := _) ["body"] rfl rfl ?_ (by decide) (by decide) ?_
  · exact fun s vs _ h => vs1 (P := fun vs => BindsTo s _ ⟨vs, []⟩ (List.zip _ vs)) h fun _ => BindsTo.of_eq rfl
  · intro F O hs' hc
    refine WPS.cons (WPX.comp O [] (kof hs' rfl) (N := fun ρ' σ₃ => _) ?_ (fun x p e => by cases e) (noFree rfl))
    refine WPI.list O ?_
    refine WPE.attr ?_; refine WPE.name rfl ?_
    refine Op1.attr O b1 b2 (by rfl) ⟨by rfl, by rfl, by rfl⟩ ?_
    refine ⟨bl, _, rfl, hkb, fun k σ' => Keep [] σ σ' ∧ ∃ ms : List Blk, ms.length = k ∧ ms.map (·.2) = (bs.take k).map (·.2) ∧ BH σ' σ.length ms, ⟨Keep.app, [], rfl, rfl, [], rfl, getNew, by simp⟩, fun k σ' j => j.1 _ _ (by first | exact List.not_mem_nil | simp) hkb, fun cenv ce k p σ' e j => ?_, fun σ' j => ?_⟩
    · obtain ⟨kk, ms, ml, me, mh⟩ := j
      obtain ⟨i, b, rfl, eb, g1, g2⟩ := hb.elt hkb e
      have hm := List.mem_of_getElem? eb
      have hrb := hr b hm
      obtain ⟨rk, rs, en⟩ := b
      refine WPA.lst O.hh (kk _ _ (by first | exact List.not_mem_nil | simp) g1) ?_
      refine WPA.cname ce.nL (ce.kind _ _ rfl (by intro z; cases z)) ?_
      refine WPA.cname ce.nL (ce.kind _ _ rfl (by intro z; cases z)) ?_
      refine ⟨Sub.cons rfl (Sub.cons rfl Sub.refl), fun _ => ?_, fun z => by cases z⟩
      refine WPE.list ?_; refine WPL.cons ?_
      refine WPE.tcall O (ce.kind _ _ rfl (by intro z; cases z)) rfl rfl (by decide) ?_
      refine WPL.args (by rfl) ?_
      refine OpN.listOfList (kk _ _ (by first | exact List.not_mem_nil | simp) g2) (by rw [List.length_map]; have hrb : rs.length ≤ 20 := hrb; omega) ?_
      refine WPL.args (by rfl) ?_
      refine ⟨by simp, ?_⟩
      have sl : σ.length < σ'.length := by
        obtain ⟨_, _, q, _⟩ := mh
        exact (List.getElem?_eq_some_iff.mp q).1
      have k2 : Keep [] σ' (σ' ++ [Cell.list (rs.map Row.pv)] ++ [Cell.list [.ref σ'.length, en.pv]]) := Keep.app.trans Keep.app
      obtain ⟨l, hl, hll, hbh⟩ := mh.push (r := σ'.length) (k := (σ' ++ [Cell.list (rs.map Row.pv)]).length) (rs := rs) (e := en) k2 (get_app getNew) getNew sl (by simp; omega)
      have hbs := (List.getElem?_eq_some_iff.mp eb).1
      refine ⟨l, hl, by omega, ?_, ms ++ [(σ'.length, rs, en)], by simp [ml], ?_, hbh⟩
      · exact Keep.setHi (kk.trans k2) (Nat.le_refl _)
      · rw [take_snd eb, ← me]; simp
    obtain ⟨kk, ms, ml, me, mh⟩ := j
    rw [show (List.map PV.ref ks).length = bs.length by simp [hkl]] at ml me
    rw [List.take_length] at me
    have mhl : σ.length < σ'.length := by
      obtain ⟨_, _, q, _⟩ := mh
      exact (List.getElem?_eq_some_iff.mp q).1
    refine WPS.ret ?_; refine WPE.call O (fa := 193) (kof hs' rfl) rfl rfl ?_; refine WPL.cons ?_; refine WPE.attr ?_; refine WPE.name rfl ?_
    refine Op1.attr O (kk _ _ (by first | exact List.not_mem_nil | simp) b1) (kk _ _ (by first | exact List.not_mem_nil | simp) b2) (by rfl) ⟨by rfl, by rfl, by rfl⟩ ?_
    refine WPL.cons ?_; refine WPE.attr ?_; refine WPE.name rfl ?_
    refine Op1.attr O (kk _ _ (by first | exact List.not_mem_nil | simp) b1) (kk _ _ (by first | exact List.not_mem_nil | simp) b2) (by rfl) ⟨by rfl, by rfl, by rfl⟩ ?_
    refine WPL.cons ?_; refine WPE.attr ?_; refine WPE.name rfl ?_
    refine Op1.attr O (kk _ _ (by first | exact List.not_mem_nil | simp) b1) (kk _ _ (by first | exact List.not_mem_nil | simp) b2) (by rfl) ⟨by rfl, by rfl, by rfl⟩ ?_
    refine WPL.consN (by rfl) ?_; refine WPL.cons ?_; refine WPE.tcall O (kof hs' rfl) rfl rfl (by decide) ?_; refine WPL.cons ?_; refine WPE.attr ?_; refine WPE.name rfl ?_
    refine Op1.attr O (kk _ _ (by first | exact List.not_mem_nil | simp) b1) (kk _ _ (by first | exact List.not_mem_nil | simp) b2) (by rfl) ⟨by rfl, by rfl, by rfl⟩ ?_
    refine WPL.nil ?_
    refine OpN.tdictCopy O (kk _ _ (by first | exact List.not_mem_nil | simp) hsp) (by simp [spotsT]) (by simp [spotsT]) (spots_hash x) ?_
    refine WPL.nil ?_
    refine body_new x O (by decide) (get_app (kk _ _ (by first | exact List.not_mem_nil | simp) hlo)) ?_
    intro σ₂ hB hL k2
    have l2 : (σ' ++ [Cell.tdict spotsT]).length = σ'.length + 1 := by simp
    rw [l2] at hB hL ⊢
    refine ⟨_, _, _, _, ms, rfl, ⟨hB, hL, k2 _ _ (by first | exact List.not_mem_nil | simp) getNew, (mh.keep (S := []) Keep.app (by simp)).keep k2 (by simp), by omega, by omega, by omega, by omega⟩, me, (kk.trans Keep.app).trans k2⟩

theorem NewBody.keep {σ σ' : List Cell} {mi lo bl sp N : Nat} {ms : List Blk} (h : NewBody σ mi lo bl sp N ms) (k : Keep [] σ σ') : NewBody σ' mi lo bl sp N ms := by
  obtain ⟨⟨bd, b1, b2⟩, h2, h3, h4, h5, h6, h7, h8⟩ := h
  exact ⟨⟨bd, k _ _ (by first | exact List.not_mem_nil | simp) b1, k _ _ (by first | exact List.not_mem_nil | simp) b2⟩, k _ _ (by first | exact List.not_mem_nil | simp) h2, k _ _ (by first | exact List.not_mem_nil | simp) h3, h4.keep k (by simp), h5, h6, h7, h8⟩
theorem NewBody.put {σ σ' : List Cell} {mi lo bl sp N r k t : Nat} {ms : List Blk} {rs : List Row} {e : End} (h : NewBody σ mi lo bl sp N ms) (kk : Keep [] σ σ') (hr : σ'[r]? = some (.list (rs.map Row.pv))) (hk : σ'[k]? = some (.list [.ref r, e.pv])) (r1 : bl < r) (k1 : bl < k) :
    ∃ l, σ'[bl]? = some (.list l) ∧ l.length = ms.length ∧ NewBody (σ'.set bl (.list (l.set t (.ref k)))) mi lo bl sp N (ms.set t (r, rs, e)) := by
  obtain ⟨l, hl, hll, hb⟩ := h.bh.put kk hr hk r1 k1 (t := t)
  obtain ⟨⟨bd, b1, b2⟩, h2, h3, h4, h5, h6, h7, h8⟩ := h.keep kk
  refine ⟨l, hl, hll, ⟨⟨bd, getSetNe b1 ?_, getSetNe b2 ?_⟩, getSetNe h2 (Ne.symm h8), getSetNe h3 ?_, hb, h5, h6, h7, h8⟩⟩
  · rintro rfl; rw [hl] at b1; cases b1
  · rintro rfl; rw [hl] at b2; cases b2
  · rintro rfl; rw [hl] at h3; cases h3
theorem enum_keys : ∀ {ks : List Nat} {i : Nat}, (enumD i ks).map (·.1) = (List.range' i ks.length).map fun (k : Nat) => (k : Int)
  | [], _ => rfl
  | k :: ks, i => by
    show (i : Int) :: (enumD (i + 1) ks).map (·.1) = (List.range' i (ks.length + 1)).map _
    rw [enum_keys (ks := ks), List.range'_succ]; rfl
theorem enum_sorted {ks : List Nat} {i : Nat} : ((enumD i ks).map (·.1)).Pairwise (fun x y => x ≤ y) := by
  rw [enum_keys, List.pairwise_map]
  exact (List.pairwise_lt_range' (s := i) (n := ks.length)).imp fun {a b} h => by have h : a < b := h; show (a : Int) ≤ (b : Int); omega
theorem enum_at {ks : List Nat} {t : Nat} {p : PV} (e : (((enumD 0 ks).map (·.1)).map PV.int)[t]? = some p) : t < ks.length ∧ p = .int t := by
  rw [enum_keys, List.map_map, List.getElem?_map] at e
  obtain ⟨a, ha, rfl⟩ := Option.map_eq_some_iff.mp e
  have hl := (List.getElem?_eq_some_iff.mp ha).1
  rw [List.length_range'] at hl
  rw [List.getElem?_range' hl] at ha
  cases ha
  exact ⟨hl, by simp⟩
theorem cl_with (x : Px) {σ : List Cell} {bi lo bl sp M : Nat} {bs : List Blk} (hbd : IsBody σ bi lo bl sp) (hlo : σ[lo]? = some (.list typesPV)) (hsp : σ[sp]? = some (.tdict spotsT)) (hb : BB σ bl bs) (hp : Path bs M) (hM5 : M ≤ 10) (hl : bs.length = M + 1) (hr : ∀ b ∈ bs, (∀ r ∈ b.2.1, r.ok) ∧ b.2.1.length ≤ 20) :
    Cl (GG x) 14 407 [.ref bi] σ fun p σ' => ∃ mi lo' bl' sp' ms, p = .ref mi ∧ NewBody σ' mi lo' bl' sp' σ.length ms ∧ ms.length = M + 1 ∧ (∀ t b, t < M → ms[t]? = some b → b.2 = dueOf (lentIn (lentList bs)) bs t) ∧ (∀ b b0, ms[M]? = some b → bs[M]? = some b0 → b.2 = b0.2) ∧ Keep [] σ σ' := by
  have hM := hp.2.1
  refine Cl.def (name := _) ["body"] rfl rfl ?_ (by decide) (by decide) ?_
  · exact fun s vs _ h => vs1 (P := fun vs => BindsTo s _ ⟨vs, []⟩ (List.zip _ vs)) h fun _ => BindsTo.of_eq rfl
  · intro F O hs' hc
    refine WPS.assign O (kof hs' rfl) ?_; refine WPE.call O (fa := 396) (kof hs' rfl) rfl rfl ?_; refine WPL.args (by rfl) ?_
    refine const_new x O (by decide) hbd hlo hb (fun b hb => (hr b hb).2) (by omega) ?_
    intro σ₁ fo be k0 Fo hcb₁ hb₁ hbe₁ hbf hbeN hlent k₁
    have be₁ := (List.getElem?_eq_some_iff.mp hbe₁.1).1
    have cl₁ : σ.length + 1 < σ₁.length := by
      obtain ⟨cd, c1, _⟩ := hcb₁.c
      exact (List.getElem?_eq_some_iff.mp c1).1
    obtain ⟨cd₁, c1, c2⟩ := hcb₁.c
    generalize hcc : σ.length + 1 = c at hcb₁ c1 cl₁
    refine WPS.cons (WPX.expr ?_ (notInter O))
    refine WPE.meth0 O (C := 396) (f := 369) ⟨by rfl, by rfl, by rfl, by rfl⟩ ?_
    refine WPE.name rfl ?_
    refine ⟨c, cd₁, _, rfl, c1, c2, by rfl, ?_⟩
    refine Cl.u1rrr (cl_follow x hcb₁ hb₁ hbe₁ hbf hp) O ?_
    rintro ks p σ₂ ksl hbe₂ k₂
    have hcb₂ : CB σ₂ c bi fo be lo bl sp Fo := hcb₁.keep k₂ fun i hi => by
      rw [List.mem_singleton.mp hi, hbe₁.1]
      exact ⟨fun _ _ z => (by cases z), fun _ z => (by cases z), (fun q => by have := hcb₁.lo; rw [← q, hbe₁.1] at this; cases this), hbf⟩
    have hb₂ : BB σ₂ bl bs := hb₁.keep k₂ fun i hi l => by
      rw [List.mem_singleton.mp hi, hbe₁.1]; intro z; cases z
    have kk₂ : Keep [] σ σ₂ := k₁.hi k₂ hbeN
    have len₂ : σ.length ≤ σ₂.length := by
      have := (List.getElem?_eq_some_iff.mp hbe₂.1).1
      omega
    clear k₁ k₂ hbe₁ hb₁ hcb₁ c1 c2 be₁ cl₁
    obtain ⟨cd, c1, c2⟩ := hcb₂.c
    obtain ⟨bd, b1, b2⟩ := hcb₂.b
    refine WPS.assign O (kof hs' rfl) ?_; refine WPE.call O (fa := 207) (kof hs' rfl) rfl rfl ?_; refine WPL.args (by rfl) ?_
    refine Cl.u5prrr (cl_copied x hcb₂.b hcb₂.lo (kk₂ _ _ (by first | exact List.not_mem_nil | simp) hsp) hb₂ (fun b hb => (hr b hb).2) (by omega)) O ?_
    rintro mi lo' bl' sp' ms σ₃ hnb₃ hms k₃
    refine WPS.cons (WPX.forS O (WPI.list O ?_))
    refine WPE.bicall O (kof hs' rfl) rfl rfl (by decide) ?_; refine WPL.cons ?_; refine WPE.attr ?_; refine WPE.name rfl ?_
    refine Op1.attr O (k₃ _ _ (by first | exact List.not_mem_nil | simp) c1) (k₃ _ _ (by first | exact List.not_mem_nil | simp) c2) (by rfl) ⟨by rfl, by rfl, by rfl⟩ ?_
    refine WPL.nil ?_
    refine OpN.sortedDict O (k₃ _ _ (by first | exact List.not_mem_nil | simp) hbe₂.1) (by rw [enum_len]; omega) enum_sorted ?_
    have mslen : ms.length = M + 1 := by rw [← hl]; have := congrArg List.length hms; simpa using this
    refine ⟨σ₃.length, _, rfl, getNew, fun t σ' => Keep [] σ₂ σ' ∧ σ'[σ₃.length]? = some (.list (((enumD 0 ks).map (·.1)).map .int)) ∧ ∃ ms : List Blk, ms.length = M + 1 ∧ NewBody σ' mi lo' bl' sp' σ₂.length ms ∧ (∀ i b, i < t → ms[i]? = some b → b.2 = dueOf (lentF Fo) bs i) ∧ (∀ i b b0, t ≤ i → ms[i]? = some b → bs[i]? = some b0 → b.2 = b0.2), ⟨k₃.trans Keep.app, getNew, ms, mslen, hnb₃.keep Keep.app, fun i b h => absurd h (Nat.not_lt_zero _), fun i b b0 _ e1 e2 => ?_⟩, fun t σ' j => j.2.1, fun t p σ' e j => ?_, fun σ' j => ?_⟩
    · have h1 : (ms.map (·.2))[i]? = some b.2 := by rw [List.getElem?_map, e1]; rfl
      have h2 : (bs.map (·.2))[i]? = some b0.2 := by rw [List.getElem?_map, e2]; rfl
      rw [hms, h2] at h1
      exact (Option.some.inj h1).symm
    · obtain ⟨tk, rfl⟩ := enum_at e
      rw [ksl] at tk
      obtain ⟨kk, hsl, ms, mslen, hnb, hdue, hrest⟩ := j
      have hcb := hcb₂.app kk
      have hb' := hb₂.keep kk (by simp)
      have hbe : Begs σ' be (lentF Fo) bs ks := hbe₂.keep kk (by simp)
      obtain ⟨b, eb, hro, hrl, hen, hsu⟩ := hp.2.2 t tk
      have tl : t < ks.length := by omega
      have ek := List.getElem?_eq_getElem tl
      have eg := enum_get (i := 0) ek
      rw [Nat.zero_add] at eg
      have ok0 : KOk (beg (lentF Fo) bs t) := beg_ok hp (by omega)
      have dueS : dueOf (lentF Fo) bs t = (mk (lentF Fo) (beg (lentF Fo) bs t) b.2.1, endMade (steps (lentF Fo) (beg (lentF Fo) bs t) b.2.1) b.2.2) := by
        unfold dueOf; rw [eb]
      have lo2 := (List.getElem?_eq_some_iff.mp hcb₂.lo).1
      have fo2 := (List.getElem?_eq_some_iff.mp hcb₂.fo).1
      have lenσ : σ₃.length < σ'.length := (List.getElem?_eq_some_iff.mp hsl).1
      have blσ : bl' < σ'.length := by
        obtain ⟨_, _, q, _⟩ := hnb.bh
        exact (List.getElem?_eq_some_iff.mp q).1
      have lo3 := (List.getElem?_eq_some_iff.mp hcb.lo).1
      have fo3 := (List.getElem?_eq_some_iff.mp hcb.fo).1
      refine WPA.name O (kof hs' rfl) ?_
      refine WPS.assign O (kof hs' rfl) ?_; refine WPE.call O (fa := 273) (kof hs' rfl) rfl rfl ?_; refine WPL.cons ?_; refine WPE.item ?_; refine WPE.attr ?_; refine WPE.name rfl ?_
      refine Op1.attr O (kk _ _ (by first | exact List.not_mem_nil | simp) c1) (kk _ _ (by first | exact List.not_mem_nil | simp) c2) (by rfl) ⟨by rfl, by rfl, by rfl⟩ ?_
      refine WPE.name rfl ?_
      refine Op2.dictAt hbe.1 eg (WPL.nil ?_)
      refine facts_new x O (by decide) (hbe.2 t _ ek).2 (by have := ok0.len; omega) fun σ₅ hf₅ k₅ => ?_
      generalize hK0 : beg (lentF Fo) bs t = K0 at ok0 dueS hf₅
      have hb₅ := hb'.keep k₅ (by simp)
      obtain ⟨ks', k, g1, g2, g3, g4⟩ := hb₅.at eb
      obtain ⟨rk, rs, en⟩ := b
      refine WPS.cons (WPX.unpack O ?_)
      refine WPE.item ?_; refine WPE.attr ?_; refine WPE.name rfl ?_
      refine Op1.attr O (k₅ _ _ (by first | exact List.not_mem_nil | simp) (kk _ _ (by first | exact List.not_mem_nil | simp) b1)) (k₅ _ _ (by first | exact List.not_mem_nil | simp) (kk _ _ (by first | exact List.not_mem_nil | simp) b2)) (by rfl) ⟨by rfl, by rfl, by rfl⟩ ?_
      refine WPE.name rfl ?_
      refine Op2.listAt g1 (by omega) g2 ?_ (by omega)
      refine WPA.lst O.hh g3 ?_
      refine WPA.name O (kof hs' rfl) ?_
      refine WPA.name O (kof hs' rfl) ?_
      refine WPS.assign O (kof hs' rfl) ?_; refine WPE.list0 ?_
      have fk5 : σ'.length + 2 < σ₅.length := by
        obtain ⟨_, _, _, q⟩ := hf₅
        exact (List.getElem?_eq_some_iff.mp q).1
      refine WPS.cons (WPX.forS O (WPI.list O ?_))
      refine WPE.name rfl ?_
      refine ⟨rk, _, rfl, get_app g4, fun i τ => Keep [] σ' τ ∧ IsFacts τ (σ'.length + 1) (σ'.length + 2) (steps (lentF Fo) K0 (rs.take i)) ∧ τ[σ₅.length]? = some (.list ((mk (lentF Fo) K0 (rs.take i)).map Row.pv)), ⟨k₅.trans Keep.app, hf₅.app Keep.app, getNew⟩, fun i τ jj => ?_, fun i p τ er jj => ?_, fun τ jj => ?_⟩
      · obtain ⟨_, _, _, _, _, g⟩ := (hb'.keep jj.1 (by simp)).at eb
        exact g
      · obtain ⟨r, hr', rfl, hmr, etr⟩ := row_at er
        obtain ⟨jk, jf, jm⟩ := jj
        have hcbτ := hcb.app jk
        have oki : KOk (steps (lentF Fo) K0 (rs.take i)) := steps_ok ok0 fun q hq => hro q (List.mem_of_mem_take hq)
        refine WPA.name O (kof hs' rfl) ?_
        refine WPS.cons ?_; refine WPX.expr ?_ (notInter O); refine WPE.bmeth (T := "list") PySem.F.plainAttrs_list PySem.F.slot_list_append PySem.F.type_list_append (.inl rfl) ?_; refine WPE.name rfl ?_
        refine ⟨_, _, rfl, jm, rfl, ?_⟩
        refine WPL.cons ?_
        refine WPE.meth O (C := 396) (f := 388) ⟨by rfl, by rfl, by rfl, by rfl⟩ ?_
        refine WPE.name rfl ?_
        refine ⟨c, cd, _, rfl, jk _ _ (by first | exact List.not_mem_nil | simp) (kk _ _ (by first | exact List.not_mem_nil | simp) c1), jk _ _ (by first | exact List.not_mem_nil | simp) (kk _ _ (by first | exact List.not_mem_nil | simp) c2), by rfl, ?_⟩
        refine WPL.args (by rfl) ?_
        refine Cl.u0pr (cl_put_statement x hcbτ jf oki (hro r hmr)) O ?_
        rintro τ1 q1
        refine WPL.nil ?_
        refine OpN.append (q1 _ _ (by first | exact List.not_mem_nil | simp) jm) (by
          rw [List.length_map, mk_len]
          have h3 : (rs.take i).length ≤ rs.length := List.length_take_le' ..
          have hrl : rs.length ≤ 20 := hrl
          omega) ?_
        have jm1 := getSet (d := .list ((mk (lentF Fo) K0 (rs.take i)).map Row.pv ++ [(made (steps (lentF Fo) K0 (rs.take i)) r).pv])) (q1 _ _ (by first | exact List.not_mem_nil | simp) jm)
        have kk1 : Keep [] σ' (τ1.set σ₅.length (.list ((mk (lentF Fo) K0 (rs.take i)).map Row.pv ++ [(made (steps (lentF Fo) K0 (rs.take i)) r).pv]))) := Keep.setHi (jk.trans q1) (by omega)
        have jf1 : IsFacts (τ1.set σ₅.length (.list ((mk (lentF Fo) K0 (rs.take i)).map Row.pv ++ [(made (steps (lentF Fo) K0 (rs.take i)) r).pv]))) (σ'.length + 1) (σ'.length + 2) (steps (lentF Fo) K0 (rs.take i)) := (jf.app q1).keep (S := [σ₅.length]) (Keep.set (by simp)) fun i hi => by
          rw [List.mem_singleton.mp hi, q1 _ _ (by first | exact List.not_mem_nil | simp) jm]
          exact ⟨fun _ _ z => (by cases z), fun _ z => (by cases z), by omega⟩
        generalize (τ1.set σ₅.length (.list ((mk (lentF Fo) K0 (rs.take i)).map Row.pv ++ [(made (steps (lentF Fo) K0 (rs.take i)) r).pv]))) = τ2 at jm1 kk1 jf1
        have hcb2 := hcb.app kk1
        refine WPS.cons (WPX.expr ?_ (notInter O))
        refine WPE.meth O (C := 396) (f := 338) ⟨by rfl, by rfl, by rfl, by rfl⟩ ?_
        refine WPE.name rfl ?_
        refine ⟨c, cd, _, rfl, kk1 _ _ (by first | exact List.not_mem_nil | simp) (kk _ _ (by first | exact List.not_mem_nil | simp) c1), kk1 _ _ (by first | exact List.not_mem_nil | simp) (kk _ _ (by first | exact List.not_mem_nil | simp) c2), by rfl, ?_⟩
        refine WPL.args (by rfl) ?_
        refine Cl.u0rr (cl_step x (kd := σ'.length + 2) hcb2 jf1 oki (by omega) (by omega) (hro r hmr)) O ?_
        rintro p τ3 jf3 q3
        refine WPS.nil ⟨Sub.cons rfl Sub.refl, kk1.hi q3 (by omega), ?_, ?_⟩
        · rw [etr, steps_snoc]; exact jf3
        · rw [etr, mk_snoc, q3 σ₅.length _ (by simp; omega) jm1]
          simp
      obtain ⟨jk, jf, jm⟩ := jj
      rw [show (List.map Row.pv rs).length = rs.length by simp, List.take_length] at jf jm
      have okS : KOk (steps (lentF Fo) K0 rs) := steps_ok ok0 hro
      refine WPS.cons ?_; refine WPX.setItem ?_; refine WPE.list ?_; refine WPL.consN (by rfl) ?_; refine WPL.cons ?_
      refine WPE.meth O (C := 396) (f := 393) ⟨by rfl, by rfl, by rfl, by rfl⟩ ?_
      refine WPE.name rfl ?_
      refine ⟨c, cd, _, rfl, jk _ _ (by first | exact List.not_mem_nil | simp) (kk _ _ (by first | exact List.not_mem_nil | simp) c1), jk _ _ (by first | exact List.not_mem_nil | simp) (kk _ _ (by first | exact List.not_mem_nil | simp) c2), by rfl, ?_⟩
      refine WPL.args (by rfl) ?_
      refine Cl.u0pr (cl_put_end x (hcb.app jk) jf okS hen) O ?_
      rintro τ1 q1
      refine WPL.nil ⟨by simp, ?_⟩
      have kkE : Keep [] σ' (τ1 ++ [Cell.list [.ref σ₅.length, (endMade (steps (lentF Fo) K0 rs) en).pv]]) := (jk.trans q1).trans Keep.app
      have hrE := get_app (τ := [Cell.list [.ref σ₅.length, (endMade (steps (lentF Fo) K0 rs) en).pv]]) (q1 _ _ (by first | exact List.not_mem_nil | simp) jm)
      have len1 : σ₅.length < τ1.length := (List.getElem?_eq_some_iff.mp (q1 _ _ (by first | exact List.not_mem_nil | simp) jm)).1
      obtain ⟨l, hl1, hl2, hnb2⟩ := hnb.put (t := t) kkE hrE getNew (by omega) (by omega)
      obtain ⟨md, m1, m2⟩ := (hnb.keep kkE).body
      refine WPE.attr ?_; refine WPE.name rfl ?_
      refine Op1.attr O m1 m2 (by rfl) ⟨by rfl, by rfl, by rfl⟩ ?_
      refine WPE.name rfl ?_
      refine OpU.lset hl1 (by omega) (by omega) (by omega) ?_
      rw [Int.toNat_natCast]
      refine WPS.nil ⟨Sub.cons rfl (Sub.cons rfl (Sub.cons rfl (Sub.cons rfl (Sub.cons rfl Sub.refl)))), ?_, ?_, _, ?_, hnb2, fun i b hi e1 => ?_, fun i b b0 hi e1 e2 => ?_⟩
      · exact Keep.setHi (kk.trans kkE) hnb.nbl
      · refine getSetNe (kkE _ _ (by first | exact List.not_mem_nil | simp) hsl) fun q => ?_
        have q2 := hl1
        rw [q] at q2
        rw [kkE _ _ (by first | exact List.not_mem_nil | simp) hsl] at q2
        obtain ⟨ks2, hk2, hb2, _⟩ := (hnb.bh.keep (S := []) kkE (by simp))
        rw [hb2] at hl1
        cases hl1
        have : ((enumD 0 ks).map (·.1)).map PV.int = ks2.map PV.ref := by injection q2 with q2; injection q2
        have h0 := congrArg (fun l : List PV => l[0]?) this
        have k0l : 0 < ks.length := by omega
        have k2l : 0 < ks2.length := by omega
        rw [enum_keys] at h0
        simp [List.getElem?_map, k0l, List.getElem?_eq_getElem k2l] at h0
      · rw [List.length_set]; exact mslen
      · by_cases z : t = i
        · subst z
          rw [List.getElem?_set_self (by omega)] at e1
          cases e1
          exact dueS.symm
        · rw [List.getElem?_set_ne z] at e1
          exact hdue i b (by omega) e1
      · rw [List.getElem?_set_ne (by omega)] at e1
        exact hrest i b b0 (by omega) e1 e2
    · obtain ⟨kk, _, ms, mslen, hnb, hdue, hrest⟩ := j
      rw [show (List.map PV.int ((enumD 0 ks).map (·.1))).length = M by simp [enum_len, ksl]] at hdue hrest
      refine WPS.ret ?_; refine WPE.name rfl ?_
      refine ⟨mi, lo', bl', sp', ms, rfl, ⟨hnb.body, hnb.tys, hnb.spo, hnb.bh, Nat.le_trans len₂ hnb.nlo, Nat.le_trans len₂ hnb.nbl, Nat.le_trans len₂ hnb.nsp, hnb.lne⟩, mslen, fun t b ht e => ?_, fun b b0 e1 e2 => hrest M b b0 (Nat.le_refl _) e1 e2, kk₂.trans kk⟩
      rw [hdue t b ht e]
      refine due_congr hp (fun l hl => ?_) ht
      rw [lent_agree]
      exact hlent l (by omega) (by omega) (by omega)

structure Fine (p : PV) : Prop where
  flat : p.flat = true
  lay : PyData.canLay0 p.dat = true
  deep : PyData.depth p.dat ≤ 8
theorem so1 : PyData.strOk "int" = true := by decide +kernel
theorem so2 : PyData.strOk "u8" = true := by decide +kernel
theorem so3 : PyData.strOk "field" = true := by decide +kernel
theorem so4 : PyData.strOk "const" = true := by decide +kernel
theorem so5 : PyData.strOk "copy" = true := by decide +kernel
theorem so6 : PyData.strOk "assign" = true := by decide +kernel
theorem so7 : PyData.strOk "use" = true := by decide +kernel
theorem so8 : PyData.strOk "tuple" = true := by decide +kernel
theorem so9 : PyData.strOk "print" = true := by decide +kernel
theorem so10 : PyData.strOk "live" = true := by decide +kernel
theorem so11 : PyData.strOk "dead" = true := by decide +kernel
theorem so12 : PyData.strOk "ref" = true := by decide +kernel
theorem so13 : PyData.strOk "shared" = true := by decide +kernel
theorem so14 : PyData.strOk "goto" = true := by decide +kernel
theorem so15 : PyData.strOk "call" = true := by decide +kernel
theorem so16 : PyData.strOk "fn" = true := by decide +kernel
theorem so17 : PyData.strOk "f" = true := by decide +kernel
theorem so18 : PyData.strOk "drop" = true := by decide +kernel
theorem so19 : PyData.strOk "return" = true := by decide +kernel
theorem so20 : PyData.strOk "g" = true := by decide +kernel
theorem row_fine (r : Row) : Fine r.pv := by
  rcases r with ⟨p, o⟩ | ⟨a, b⟩ | ⟨o⟩ | ⟨lv, l⟩ | ⟨p⟩
  · rcases p with l | k <;> rcases o with v | (l' | k') <;> constructor <;> simp [Row.pv, Plc.pv, Opd.pv, bytePV, PV.flat, PV.flats, PV.dat, PV.dats, PyData.canLay0, PyData.canLayAll0, PyData.depth, PyData.depthAll, so1, so2, so3, so4, so5, so6, so7]
  · rcases a with v | (l | k) <;> rcases b with v' | (l' | k') <;> constructor <;> simp [Row.pv, Plc.pv, Opd.pv, bytePV, PV.flat, PV.flats, PV.dat, PV.dats, PyData.canLay0, PyData.canLayAll0, PyData.depth, PyData.depthAll, so1, so2, so3, so4, so5, so6, so8]
  · rcases o with v | (l | k) <;> constructor <;> simp [Row.pv, Plc.pv, Opd.pv, bytePV, PV.flat, PV.flats, PV.dat, PV.dats, PyData.canLay0, PyData.canLayAll0, PyData.depth, PyData.depthAll, so1, so2, so3, so4, so5, so9]
  · cases lv <;> constructor <;> simp [Row.pv, PV.flat, PV.flats, PV.dat, PV.dats, PyData.canLay0, PyData.canLayAll0, PyData.depth, PyData.depthAll, so10, so11]
  · rcases p with l | k <;> constructor <;> simp [Row.pv, Plc.pv, PV.flat, PV.flats, PV.dat, PV.dats, PyData.canLay0, PyData.canLayAll0, PyData.depth, PyData.depthAll, so3, so6, so12, so13]
theorem end_fine (e : End) : Fine e.pv := by
  rcases e with n | ⟨o, p, n⟩ | ⟨p, n⟩ | _
  · constructor <;> simp [End.pv, PV.flat, PV.flats, PV.dat, PV.dats, PyData.canLay0, PyData.canLayAll0, PyData.depth, PyData.depthAll, so14]
  · rcases p with l | k <;> rcases o with v | (l' | k') <;> constructor <;> simp [End.pv, Plc.pv, Opd.pv, bytePV, PV.flat, PV.flats, PV.dat, PV.dats, PyData.canLay0, PyData.canLayAll0, PyData.depth, PyData.depthAll, so1, so2, so3, so4, so5, so15, so16, so17]
  · rcases p with l | k <;> constructor <;> simp [End.pv, Plc.pv, PV.flat, PV.flats, PV.dat, PV.dats, PyData.canLay0, PyData.canLayAll0, PyData.depth, PyData.depthAll, so3, so18]
  · constructor <;> simp [End.pv, PV.flat, PV.flats, PV.dat, PV.dats, PyData.canLay0, PyData.canLayAll0, PyData.depth, PyData.depthAll, so19]
noncomputable def rowsD (rs : List Row) : List PyData := rs.map fun r => r.pv.dat
noncomputable def blkD (b : List Row × End) : PyData := .tuple [.list (rowsD b.1), b.2.pv.dat]
theorem dv_rows {σ : List Cell} : ∀ {rs : List Row}, DVs σ (rs.map Row.pv) (rowsD rs)
  | [] => .nil
  | r :: rs => .cons (.flat _ (row_fine r).flat) (dv_rows (rs := rs))
theorem dv_blks {σ : List Cell} : ∀ {bs : List Blk}, (∀ b ∈ bs, σ[b.1]? = some (.list (b.2.1.map Row.pv))) → DVs σ (bs.map Blk.pv) ((bs.map (·.2)).map blkD)
  | [], _ => .nil
  | b :: bs, h => .cons (.tup (.cons (.list (h b (.head _)) dv_rows) (.cons (.flat _ (end_fine _).flat) .nil))) (dv_blks (bs := bs) fun c hc => h c (.tail _ hc))
theorem lay_rows : ∀ {rs : List Row}, PyData.canLayAll0 (rowsD rs) = true ∧ PyData.depthAll (rowsD rs) ≤ 8
  | [] => ⟨rfl, by simp [rowsD, PyData.depthAll]⟩
  | r :: rs => by
    have h := lay_rows (rs := rs)
    have f := row_fine r
    have e : rowsD (r :: rs) = r.pv.dat :: rowsD rs := rfl
    rw [e]
    refine ⟨?_, ?_⟩
    · rw [PyData.canLayAll0, f.lay, h.1]; rfl
    · rw [PyData.depthAll]; exact Nat.max_le.mpr ⟨f.deep, h.2⟩
theorem lay_blk (b : List Row × End) : PyData.canLay0 (blkD b) = true ∧ PyData.depth (blkD b) ≤ 10 := by
  have h := lay_rows (rs := b.1)
  have f := end_fine b.2
  refine ⟨?_, ?_⟩
  · simp [blkD, PyData.canLay0, PyData.canLayAll0, h.1, f.lay]
  · have h2 := h.2
    have h3 := f.deep
    simp only [blkD, PyData.depth, PyData.depthAll]
    omega
theorem lay_blks : ∀ {bs : List (List Row × End)}, PyData.canLayAll0 (bs.map blkD) = true ∧ PyData.depthAll (bs.map blkD) ≤ 10
  | [] => ⟨rfl, by simp [PyData.depthAll]⟩
  | b :: bs => by
    have h := lay_blks (bs := bs)
    have f := lay_blk b
    rw [List.map_cons]
    refine ⟨?_, ?_⟩
    · rw [PyData.canLayAll0, f.1, h.1]; rfl
    · rw [PyData.depthAll]; exact Nat.max_le.mpr ⟨f.2, h.2⟩
theorem sh_blks {bs : List (List Row × End)} : SeqAt.shaped (.list (bs.map blkD)) = true := by
  have h := lay_blks (bs := bs)
  have h2 := h.2
  unfold SeqAt.shaped
  rw [Bool.and_eq_true]
  refine ⟨by rw [PyData.canLay0]; exact h.1, decide_eq_true ?_⟩
  rw [PyData.depth]
  omega
theorem typesD : ∃ ds, (∀ σ : List Cell, DVs σ typesPV ds) ∧ SeqAt.shaped (.list ds) = true := by
  refine ⟨PV.dats typesPV, fun σ => ?_, by decide +kernel⟩
  exact .cons (.flat _ rfl) (.cons (.flat _ rfl) (.cons (.flat _ rfl) (.cons (.flat _ rfl) (.cons (.flat _ rfl) (.cons (.flat _ rfl) (.cons (.flat _ rfl) .nil))))))
theorem cl_is_so (x : Px) {σ : List Cell} {bi lo bl sp j q : Nat} {bs ds : List Blk} (hbd : IsBody σ bi lo bl sp) (hlo : σ[lo]? = some (.list typesPV)) (hsp : σ[sp]? = some (.tdict spotsT)) (hq : σ[q]? = some (.tdict spotsT)) (hb : BB σ bl bs) (hd : Blks σ j ds) (he : bs.map (·.2) = ds.map (·.2)) (hr : ∀ b ∈ bs, b.2.1.length ≤ 20) (hn : bs.length ≤ 20) :
    Cl (GG x) 6 507 [.ref bi, .ref j, .ref q] σ fun p σ' => p = .bool true ∧ Keep [] σ σ' := by
  obtain ⟨bd, b1, b2⟩ := id hbd
  obtain ⟨ks, hkl, hkb⟩ := hb.list
  refine Cl.def (name := _) ["body", "blocks", "spots"] rfl rfl ?_ (by decide) (by decide) ?_
  · exact fun s vs _ h => vs3 (P := fun vs => BindsTo s _ ⟨vs, []⟩ (List.zip _ vs)) h fun _ _ _ => BindsTo.of_eq rfl
  · intro F O hs' hc
    refine WPS.ite ?_; refine WPB.cmp ?_
    refine WPE.comp O [] ?_ (fun x p e => by cases e) (noFree rfl)
    refine WPI.list O ?_
    refine WPE.attr ?_; refine WPE.name rfl ?_
    refine Op1.attr O b1 b2 (by rfl) ⟨by rfl, by rfl, by rfl⟩ ?_
    refine ⟨bl, _, rfl, hkb, fun k σ' => Keep [] σ σ' ∧ ∃ ms : List Blk, ms.length = k ∧ ms.map (·.2) = (bs.take k).map (·.2) ∧ σ'[σ.length]? = some (.list (ms.map Blk.pv)) ∧ ∀ b ∈ ms, σ.length < b.1 ∧ σ'[b.1]? = some (.list (b.2.1.map Row.pv)), ⟨Keep.app, [], rfl, rfl, getNew, by simp⟩, fun k σ' j => j.1 _ _ (by first | exact List.not_mem_nil | simp) hkb, fun cenv ce k p σ' e j => ?_, fun σ' j => ?_⟩
    · obtain ⟨kk, ms, ml, me, mh, mr⟩ := j
      obtain ⟨i, b, rfl, eb, g1, g2⟩ := hb.elt hkb e
      have hm := List.mem_of_getElem? eb
      have hrb := hr b hm
      have hbs := (List.getElem?_eq_some_iff.mp eb).1
      obtain ⟨rk, rs, en⟩ := b
      refine WPA.lst O.hh (kk _ _ (by first | exact List.not_mem_nil | simp) g1) ?_
      refine WPA.cname ce.nL (ce.kind _ _ rfl (by intro z; cases z)) ?_
      refine WPA.cname ce.nL (ce.kind _ _ rfl (by intro z; cases z)) ?_
      refine ⟨Sub.cons rfl (Sub.cons rfl Sub.refl), fun _ => ?_, fun z => by cases z⟩
      refine WPE.tuple ?_; refine WPL.cons ?_
      refine WPE.tcall O (ce.kind _ _ rfl (by intro z; cases z)) rfl rfl (by decide) ?_
      refine WPL.args (by rfl) ?_
      refine OpN.listOfList (kk _ _ (by first | exact List.not_mem_nil | simp) g2) (by rw [List.length_map]; have hrb : rs.length ≤ 20 := hrb; omega) ?_
      refine WPL.args (by rfl) ?_
      refine ⟨by simp, ?_⟩
      have sl : σ.length < σ'.length := (List.getElem?_eq_some_iff.mp mh).1
      refine ⟨_, get_app mh, by rw [List.length_map]; omega, Keep.setHi (kk.trans Keep.app) (Nat.le_refl _), ms ++ [(σ'.length, rs, en)], by simp [ml], ?_, ?_, fun b hb => ?_⟩
      · rw [take_snd eb, ← me]; simp
      · rw [getSet (get_app mh)]; simp [Blk.pv]
      · rcases List.mem_append.mp hb with hb | hb
        · obtain ⟨m1, m2⟩ := mr b hb
          exact ⟨m1, getSetNe (get_app m2) (by omega)⟩
        · rw [List.mem_singleton.mp hb]
          exact ⟨sl, getSetNe getNew (by show σ.length ≠ σ'.length; omega)⟩
    obtain ⟨kk, ms, ml, me, mh, mr⟩ := j
    rw [show (List.map PV.ref ks).length = bs.length by simp [hkl], List.take_length] at me
    refine WPE.name rfl ?_
    have hj := kk _ _ (by first | exact List.not_mem_nil | simp) hd.1
    have e2 : (ms.map (·.2)).map blkD = (ds.map (·.2)).map blkD := by rw [me, he]
    refine Op2.neD O (.list mh (dv_blks fun b hb => (mr b hb).2)) (.list hj (dv_blks fun b hb => kk _ _ (by first | exact List.not_mem_nil | simp) (hd.2 b hb))) sh_blks sh_blks ⟨_, rfl, fun h => ?_, fun _ => ?_⟩
    · rw [e2, SeqAt.eqv_refl _ (SeqAt.canLay_of_shaped sh_blks)] at h
      cases h
    · have b1' := kk _ _ (by first | exact List.not_mem_nil | simp) b1
      have b2' := kk _ _ (by first | exact List.not_mem_nil | simp) b2
      refine WPS.nil ?_; refine WPS.ret ?_; refine WPE.cmp ?_; refine WPE.tuple ?_; refine WPL.cons ?_; refine WPE.attr ?_; refine WPE.name rfl ?_
      refine Op1.attr O b1' b2' (by rfl) ⟨by rfl, by rfl, by rfl⟩ ?_
      refine WPL.cons ?_; refine WPE.attr ?_; refine WPE.name rfl ?_
      refine Op1.attr O b1' b2' (by rfl) ⟨by rfl, by rfl, by rfl⟩ ?_
      refine WPL.cons ?_; refine WPE.tcall O (kof hs' rfl) rfl rfl (by decide) ?_; refine WPL.cons ?_; refine WPE.attr ?_; refine WPE.name rfl ?_
      refine Op1.attr O b1' b2' (by rfl) ⟨by rfl, by rfl, by rfl⟩ ?_
      refine WPL.nil ?_
      refine OpN.listOfList (kk _ _ (by first | exact List.not_mem_nil | simp) hlo) (by simp [typesPV]) ?_
      refine WPL.cons ?_; refine WPE.attr ?_; refine WPE.name rfl ?_
      refine Op1.attr O (get_app b1') (get_app b2') (by rfl) ⟨by rfl, by rfl, by rfl⟩ ?_
      refine WPL.nil ⟨by simp, ?_⟩
      refine WPE.tuple ?_; refine WPL.cons ?_; refine WPE.cstr ?_; refine WPL.cons ?_; refine WPE.cint ?_; refine WPL.cons ?_; refine WPE.call0 O (fa := 440) (kof hs' rfl) rfl rfl ?_
      refine Cl.u1prrr (cl_types x) O ?_
      rintro lt σ₃ ltl hlt k₃
      refine WPL.args (by rfl) ?_
      refine ⟨by simp, ?_⟩
      have kk3 : Keep [] σ σ₃ := (kk.trans Keep.app).trans k₃
      obtain ⟨tds, dtd, dsh⟩ := typesD
      refine Op2.eqTold O (k₃ _ _ (by first | exact List.not_mem_nil | simp) getNew) hlt (dtd _) dsh (kk3 _ _ (by first | exact List.not_mem_nil | simp) hsp) (kk3 _ _ (by first | exact List.not_mem_nil | simp) hq) ?_ so20 ⟨rfl, kk3⟩
      intro y hy
      simp [spotsT] at hy
      rcases hy with rfl | rfl
      · exact ⟨_, rfl⟩
      · exact ⟨_, rfl⟩

theorem snd_at {ms bs : List Blk} (h : ms.map (·.2) = bs.map (·.2)) {t : Nat} {b : Blk} (e : bs[t]? = some b) : ∃ b', ms[t]? = some b' ∧ b'.2 = b.2 := by
  have h1 : (bs.map (·.2))[t]? = some b.2 := by rw [List.getElem?_map, e]; rfl
  rw [← h, List.getElem?_map] at h1
  obtain ⟨b', e1, e2⟩ := Option.map_eq_some_iff.mp h1
  exact ⟨b', e1, e2⟩
theorem snd_none {ms bs : List Blk} (h : ms.map (·.2) = bs.map (·.2)) {t : Nat} (e : bs[t]? = none) : ms[t]? = none := by
  have hl := congrArg List.length h
  simp only [List.length_map] at hl
  rw [List.getElem?_eq_none_iff] at e ⊢
  omega
theorem beg_snd {lent : Int → Bool} {ms bs : List Blk} (h : ms.map (·.2) = bs.map (·.2)) : ∀ t, beg lent ms t = beg lent bs t
  | 0 => rfl
  | t + 1 => by
    unfold beg
    cases e : bs[t]? with
    | none => rw [snd_none h e]
    | some b =>
      obtain ⟨b', e1, e2⟩ := snd_at h e
      rw [e1]
      show endK (steps lent (beg lent ms t) b'.2.1) b'.2.2 = endK (steps lent (beg lent bs t) b.2.1) b.2.2
      rw [beg_snd h t, e2]
theorem due_snd {lent : Int → Bool} {ms bs : List Blk} (h : ms.map (·.2) = bs.map (·.2)) (t : Nat) : dueOf lent ms t = dueOf lent bs t := by
  unfold dueOf
  cases e : bs[t]? with
  | none => rw [snd_none h e]
  | some b =>
    obtain ⟨b', e1, e2⟩ := snd_at h e
    rw [e1]
    show (mk lent (beg lent ms t) b'.2.1, endMade (steps lent (beg lent ms t) b'.2.1) b'.2.2) = (mk lent (beg lent bs t) b.2.1, endMade (steps lent (beg lent bs t) b.2.1) b.2.2)
    rw [beg_snd h t, e2]
theorem lent_snd {ms bs : List Blk} (h : ms.map (·.2) = bs.map (·.2)) : lentList ms = lentList bs := by
  have e : ∀ l : List Blk, lentList l = (l.map (·.2)).flatMap fun b => lentRows b.1 := fun l => by unfold lentList; rw [List.flatMap_map]
  rw [e, e, h]
theorem path_snd {ms bs : List Blk} {M : Nat} (h : ms.map (·.2) = bs.map (·.2)) (hp : Path bs M) : Path ms M :=
  ⟨hp.1, hp.2.1, fun t ht => by
    obtain ⟨b, e, r⟩ := hp.2.2 t ht
    obtain ⟨b', e1, e2⟩ := snd_at h e
    exact ⟨b', e1, by rw [e2]; exact r⟩⟩
theorem rows_snd {ms bs : List Blk} {P : List Row × End → Prop} (h : ms.map (·.2) = bs.map (·.2)) (hr : ∀ b ∈ bs, P b.2) : ∀ b ∈ ms, P b.2 := fun b hb => by
  have : b.2 ∈ bs.map (·.2) := h ▸ List.mem_map.mpr ⟨b, hb, rfl⟩
  obtain ⟨b', hb', e⟩ := List.mem_map.mp this
  rw [← e]; exact hr b' hb'
theorem blks_keep {S : List Nat} {σ σ' : List Cell} {j : Nat} {bs : List Blk} (h : Blks σ j bs) (k : Keep S σ σ') (hS : S = []) : Blks σ' j bs := by
  subst hS
  exact ⟨k _ _ (by first | exact List.not_mem_nil | simp) h.1, fun b hb => k _ _ (by first | exact List.not_mem_nil | simp) (h.2 b hb)⟩
theorem wellB_le {bs : List Blk} {M : Nat} (h : WellB bs) (hl : bs.length = M + 1) : M ≤ 5 := by
  obtain ⟨M', hl', h2, h5, _⟩ := h
  omega
/-- what stays true of the made body while it is changed -/
structure Spoil (σ₀ σ' : List Cell) (mi lo bl sp : Nat) (ks : List Nat) (ns : List Blk) (i : Nat) : Prop where
  keep : Keep [] σ₀ σ'
  body : IsBody σ' mi lo bl sp
  spo : σ'[sp]? = some (.tdict spotsT)
  list : σ'[bl]? = some (.list (ks.map PV.ref))
  lol : ∃ l, σ'[lo]? = some (.list l) ∧ l.length ≤ 30 + i
  blk : ∀ (t k : Nat) (b : Blk), ks[t]? = some k → ns[t]? = some b → bl < k ∧ bl < b.1 ∧ (∃ e, σ'[k]? = some (.list [.ref b.1, .tup e])) ∧ ∃ l : List (List PV), σ'[b.1]? = some (.list (l.map PV.tup)) ∧ l.length ≤ 30 + i
theorem ref_ne_tup {r : Nat} {e : List PV} {l : List (List PV)} : [PV.ref r, .tup e] ≠ l.map PV.tup := fun h => by
  cases l with
  | nil => cases h
  | cons a l => injection h with h1 h2; cases h1
theorem row_tup (r : Row) : ∃ e, r.pv = .tup e := by cases r <;> exact ⟨_, rfl⟩
theorem end_tup (e : End) : ∃ l, e.pv = .tup l := by cases e <;> exact ⟨_, rfl⟩
theorem rows_tup : ∀ rs : List Row, ∃ l : List (List PV), rs.map Row.pv = l.map PV.tup
  | [] => ⟨[], rfl⟩
  | r :: rs => by
    obtain ⟨e, h⟩ := row_tup r
    obtain ⟨l, hl⟩ := rows_tup rs
    exact ⟨e :: l, by rw [List.map_cons, h, hl]; rfl⟩
theorem Spoil.start {σ₀ σ' : List Cell} {mi lo bl sp : Nat} {ns : List Blk} (h : NewBody σ' mi lo bl sp σ₀.length ns) (k : Keep [] σ₀ σ') (hr : ∀ b ∈ ns, b.2.1.length ≤ 20) : ∃ ks : List Nat, ks.length = ns.length ∧ Spoil σ₀ σ' mi lo bl sp ks ns 0 := by
  obtain ⟨ks, hl, h1, h2⟩ := h.bh
  refine ⟨ks, hl, k, h.body, h.spo, h1, ⟨_, h.tys, by simp [typesPV]⟩, fun t i b e1 e2 => ?_⟩
  obtain ⟨g1, g2, g3, g4⟩ := h2 t i b e1 e2
  obtain ⟨e, he⟩ := end_tup b.2.2
  obtain ⟨l, hll⟩ := rows_tup b.2.1
  refine ⟨g1, g2, ⟨e, by rw [g3, he]⟩, l, by rw [g4, hll], ?_⟩
  have := congrArg List.length hll
  simp at this
  have := hr b (List.mem_of_getElem? e2)
  omega
/-- a list cell above is written -/
theorem Spoil.rows {σ₀ σ' : List Cell} {mi lo bl sp i t k : Nat} {ks : List Nat} {ns : List Blk} {b : Blk} {l : List (List PV)} {e : List PV} (h : Spoil σ₀ σ' mi lo bl sp ks ns i) (hN : σ₀.length ≤ bl) (e1 : ks[t]? = some k) (e2 : ns[t]? = some b) (hl : σ'[b.1]? = some (.list (l.map PV.tup))) (hll : l.length ≤ 30 + i) :
    Spoil σ₀ (σ'.set b.1 (.list (l.map PV.tup ++ [.tup e]))) mi lo bl sp ks ns (i + 1) := by
  obtain ⟨g1, g2, _, _⟩ := h.blk t k b e1 e2
  have ne : ∀ {c : Nat} {d : Cell}, σ'[c]? = some d → (∀ l, d ≠ .list l) → (σ'.set b.1 (.list (l.map PV.tup ++ [.tup e])))[c]? = some d := fun {c d} hc hd => getSetNe hc (by rintro rfl; rw [hl] at hc; cases hc; exact hd _ rfl)
  obtain ⟨bd, b1, b2⟩ := h.body
  refine ⟨h.keep.setHi (by omega), ⟨bd, ne b1 (by intro l z; cases z), ne b2 (by intro l z; cases z)⟩, ne h.spo (by intro l z; cases z), getSetNe h.list (by omega), ?_, fun t' k' b' e1' e2' => ?_⟩
  · obtain ⟨l', h1, h2⟩ := h.lol
    by_cases q : b.1 = lo
    · rw [q] at hl ⊢
      exact ⟨_, getSet hl, by simp; omega⟩
    · exact ⟨l', getSetNe h1 q, by omega⟩
  · obtain ⟨m1, m2, ⟨e', m3⟩, l', m4, m5⟩ := h.blk t' k' b' e1' e2'
    refine ⟨m1, m2, ⟨e', getSetNe m3 ?_⟩, ?_⟩
    · rintro q
      rw [← q, hl] at m3
      injection m3 with m3
      injection m3 with m3
      exact ref_ne_tup m3.symm
    · by_cases q : b.1 = b'.1
      · rw [← q]
        exact ⟨l ++ [e], by rw [getSet hl]; simp, by simp; omega⟩
      · exact ⟨l', getSetNe m4 q, by omega⟩
theorem Spoil.ends {σ₀ σ' : List Cell} {mi lo bl sp i t k : Nat} {ks : List Nat} {ns : List Blk} {b : Blk} {e e' : List PV} (h : Spoil σ₀ σ' mi lo bl sp ks ns i) (hN : σ₀.length ≤ bl) (e1 : ks[t]? = some k) (e2 : ns[t]? = some b) (hk : σ'[k]? = some (.list [.ref b.1, .tup e'])) :
    Spoil σ₀ (σ'.set k (.list [.ref b.1, .tup e])) mi lo bl sp ks ns i := by
  obtain ⟨g1, g2, _, _⟩ := h.blk t k b e1 e2
  have ne : ∀ {c : Nat} {d : Cell}, σ'[c]? = some d → (∀ l, d ≠ .list l) → (σ'.set k (.list [.ref b.1, .tup e]))[c]? = some d := fun {c d} hc hd => getSetNe hc (by rintro rfl; rw [hk] at hc; cases hc; exact hd _ rfl)
  obtain ⟨bd, b1, b2⟩ := h.body
  refine ⟨h.keep.setHi (by omega), ⟨bd, ne b1 (by intro l z; cases z), ne b2 (by intro l z; cases z)⟩, ne h.spo (by intro l z; cases z), getSetNe h.list (by omega), ?_, fun t' k' b' e1' e2' => ?_⟩
  · obtain ⟨l', h1, h2⟩ := h.lol
    by_cases q : k = lo
    · rw [q] at hk ⊢
      exact ⟨_, getSet hk, by simp; omega⟩
    · exact ⟨l', getSetNe h1 q, by omega⟩
  · obtain ⟨m1, m2, ⟨e'', m3⟩, l', m4, m5⟩ := h.blk t' k' b' e1' e2'
    refine ⟨m1, m2, ?_, l', getSetNe m4 ?_, by omega⟩
    · by_cases q : k = k'
      · subst q
        rw [hk] at m3
        injection m3 with m3
        injection m3 with m3
        injection m3 with m3 _
        injection m3 with m3
        exact ⟨e, by rw [getSet hk, m3]⟩
      · exact ⟨e'', getSetNe m3 q⟩
    · rintro q
      rw [← q, hk] at m4
      injection m4 with m4
      injection m4 with m4
      exact ref_ne_tup m4
theorem law_wps (x : Px) {ns : List Int} {F : FX} (O : F.Ok (GG x) 17) (hs' : F.env.scope = fS (st 49)) (hc : F.env.cells = []) :
    WPS (GG x) F [(("script" : Str), .lst (intsPV ns))] [] (fB (st 49)) (fun _ _ => False) (fun p _ => p = .bool true) := by
  refine WPS.assign O (kof hs' rfl) ?_; refine WPE.call O (fa := 414) (kof hs' rfl) rfl rfl ?_; refine WPL.args (by rfl) ?_
  refine Cl.u1prrr (cl_pool x) O ?_
  rintro i σ₁ il hsrc k₁
  refine WPS.cons ?_
  refine WPX.swap O ["blocks", "spots"] ?_ (by unfold swappedStores Env.blockKind Env.kindOf; rw [hs']; rfl) (by intro x hx; simp at hx; rcases hx with rfl | rfl <;> exact kof hs' rfl)
  refine WPE.tuple ?_; refine WPL.cons ?_; refine WPE.call O (fa := 473) (kof hs' rfl) rfl rfl ?_; refine WPL.args (by rfl) ?_
  refine Cl.u2prrrrr (cl_blocks x hsrc) O ?_
  rintro j bs σ₂ hbl hw jl bl1 k₂
  refine WPL.cons ?_
  have h01 : ([0, 0] : List Int) ≠ [1, 0] := by simp
  refine @WPE.tdict2 (GG x) F F.env _ _ _ _ O _ _ _ _ _ [0, 0] [1, 0] h01 ?_
  refine WPE.tupArgs (by rfl) ?_
  refine WPE.cint ?_; refine WPE.tupArgs (by rfl) ?_
  refine WPE.cint ⟨rfl, rfl, getNew, ?_⟩
  refine WPL.nil ⟨by simp, _, rfl, rfl, ?_⟩
  rw [show (σ₂ ++ [Cell.tdict []]).set σ₂.length (.tdict [([0, 0], .int 5), ([1, 0], .int 6)]) = σ₂ ++ [Cell.tdict spotsT] from set_last]
  have hq := getNew (σ := σ₂) (c := Cell.tdict spotsT)
  have hbl := blks_keep hbl (Keep.app (S := []) (l := [Cell.tdict spotsT])) rfl
  generalize σ₂ ++ [Cell.tdict spotsT] = σ₃ at hq hbl
  generalize σ₂.length = q at hq
  clear k₁ k₂ bl1 jl hsrc il
  obtain ⟨M, hl, hp, hr⟩ := hw.path
  have hM5 := wellB_le hw hl
  refine WPS.assign O (kof hs' rfl) ?_; refine WPE.call O (fa := 193) (kof hs' rfl) rfl rfl ?_; refine WPL.cons ?_; refine WPE.cstr ?_; refine WPL.cons ?_; refine WPE.cint ?_; refine WPL.cons ?_; refine WPE.call0 O (fa := 440) (kof hs' rfl) rfl rfl ?_
  refine Cl.u1prrr (cl_types x) O ?_
  rintro lt σ₄ ltl hlt k₄
  have hq := k₄ _ _ (by first | exact List.not_mem_nil | simp) hq
  have hbl := blks_keep hbl k₄ rfl
  clear k₄ ltl
  refine WPL.cons ?_
  refine WPE.comp O [] ?_ (fun x p e => by cases e) (noFree rfl)
  refine WPI.list O ?_
  refine WPE.name rfl ?_
  refine ⟨j, _, rfl, hbl.1, fun k σ' => Keep [] σ₄ σ' ∧ ∃ ms : List Blk, ms.length = k ∧ ms.map (·.2) = (bs.take k).map (·.2) ∧ BH σ' σ₄.length ms, ⟨Keep.app, [], rfl, rfl, [], rfl, getNew, by simp⟩, fun k σ' j => j.1 _ _ (by first | exact List.not_mem_nil | simp) hbl.1, fun cenv ce k p σ' e j => ?_, fun σ' j => ?_⟩
  · obtain ⟨kk, ms, ml, me, mh⟩ := j
    obtain ⟨b, eb, rfl, hm, _⟩ := blk_at e
    have hrb := (hr b hm).2
    have g2 := hbl.2 b hm
    have hbs := (List.getElem?_eq_some_iff.mp eb).1
    obtain ⟨rk, rs, en⟩ := b
    refine WPA.tup O.hh ?_
    refine WPA.cname ce.nL (ce.kind _ _ rfl (by intro z; cases z)) ?_
    refine WPA.cname ce.nL (ce.kind _ _ rfl (by intro z; cases z)) ?_
    refine ⟨Sub.cons rfl (Sub.cons rfl Sub.refl), fun _ => ?_, fun z => by cases z⟩
    refine WPE.list ?_; refine WPL.cons ?_
    refine WPE.tcall O (ce.kind _ _ rfl (by intro z; cases z)) rfl rfl (by decide) ?_
    refine WPL.args (by rfl) ?_
    refine OpN.listOfList (kk _ _ (by first | exact List.not_mem_nil | simp) g2) (by rw [List.length_map]; have hrb : rs.length ≤ 20 := hrb; omega) ?_
    refine WPL.args (by rfl) ?_
    refine ⟨by simp, ?_⟩
    have sl : σ₄.length < σ'.length := by
      obtain ⟨_, _, q, _⟩ := mh
      exact (List.getElem?_eq_some_iff.mp q).1
    have k2 : Keep [] σ' (σ' ++ [Cell.list (rs.map Row.pv)] ++ [Cell.list [.ref σ'.length, en.pv]]) := Keep.app.trans Keep.app
    obtain ⟨l, hl', hll, hbh⟩ := mh.push (r := σ'.length) (k := (σ' ++ [Cell.list (rs.map Row.pv)]).length) (rs := rs) (e := en) k2 (get_app getNew) getNew sl (by simp; omega)
    refine ⟨l, hl', by omega, ?_, ms ++ [(σ'.length, rs, en)], by simp [ml], ?_, hbh⟩
    · exact Keep.setHi (kk.trans k2) (Nat.le_refl _)
    · rw [take_snd eb, ← me]; simp
  obtain ⟨kk, ms, ml, me, mh⟩ := j
  rw [show (List.map Blk.pv bs).length = bs.length by simp] at ml me
  rw [List.take_length] at me
  have hq := kk _ _ (by first | exact List.not_mem_nil | simp) hq
  have hbl := blks_keep hbl kk rfl
  have hlt := kk _ _ (by first | exact List.not_mem_nil | simp) hlt
  clear kk
  generalize hbb : σ₄.length = bb at mh
  clear hbb
  refine WPL.cons ?_; refine WPE.tcall O (kof hs' rfl) rfl rfl (by decide) ?_; refine WPL.args (by rfl) ?_
  refine OpN.tdictCopy O hq (by simp [spotsT]) (by simp [spotsT]) (spots_hash x) ?_
  refine WPL.nil ?_
  refine body_new x O (by decide) (get_app hlt) ?_
  intro σ₆ hB hL k₆
  have hq := k₆ _ _ (by first | exact List.not_mem_nil | simp) (get_app hq)
  have hbl := blks_keep (blks_keep hbl (Keep.app (S := [])) rfl) k₆ rfl
  have hbb : BB σ₆ bb ms := ((mh.keep (S := []) Keep.app (by simp)).keep k₆ (by simp)).bb
  have hsp := k₆ _ _ (by first | exact List.not_mem_nil | simp) getNew
  clear k₆ mh hlt
  generalize (σ' ++ [Cell.tdict spotsT]).length + 1 = bi at hB
  generalize (σ' ++ [Cell.tdict spotsT]).length + 2 = lo at hB hL
  generalize σ'.length = sp at hB hsp
  have hpm : Path ms M := path_snd me hp
  have hlm : ms.length = M + 1 := by have := congrArg List.length me; simpa [hl] using this
  have hrm : ∀ b ∈ ms, (∀ r ∈ b.2.1, r.ok) ∧ b.2.1.length ≤ 20 := rows_snd (P := fun b => (∀ r ∈ b.1, r.ok) ∧ b.1.length ≤ 20) me hr
  refine WPS.assign O (kof hs' rfl) ?_; refine WPE.call O (fa := 407) (kof hs' rfl) rfl rfl ?_; refine WPL.args (by rfl) ?_
  refine Cl.u5prrrrr (cl_with x hB hL hsp hbb hpm (by omega) hlm hrm) O ?_
  rintro mi lo' bl' sp' nw σ₇ hnb hnl hnd hnr k₇
  refine WPS.ite ?_; refine WPB.not ?_; refine WPB.plain ?_; refine WPE.call O (fa := 507) (kof hs' rfl) rfl rfl ?_; refine WPL.consN (by rfl) ?_; refine WPL.cons ?_; refine WPE.call O (fa := 502) (kof hs' rfl) rfl rfl ?_; refine WPL.args (by rfl) ?_
  refine Cl.u2prrrrrr (cl_due x (blks_keep hbl k₇ rfl) hp hl hr) O ?_
  rintro f ds σ₈ fl hds hdl hdd hdr k₈
  refine WPL.args (by rfl) ?_
  have hnb₈ := hnb.keep k₈
  have kk₈ := k₇.trans k₈
  have he : nw.map (·.2) = ds.map (·.2) := by
    apply List.ext_getElem?
    intro t
    rw [List.getElem?_map, List.getElem?_map]
    by_cases ht : t < M + 1
    · have e1 := List.getElem?_eq_getElem (l := nw) (i := t) (by omega)
      have e2 := List.getElem?_eq_getElem (l := ds) (i := t) (by omega)
      rw [e1, e2]
      show some (nw[t]).2 = some (ds[t]).2
      by_cases hm : t < M
      · rw [hnd t _ hm e1, hdd t _ hm e2, lent_snd me, due_snd me]
      · have tM : t = M := by omega
        subst tM
        have eb := List.getElem?_eq_getElem (l := bs) (i := t) (by omega)
        obtain ⟨b', e3, e4⟩ := snd_at me eb
        have e5 := hdr _ eb
        rw [e2] at e5
        rw [hnr _ _ e1 e3, e4, Option.some.inj e5]
    · rw [List.getElem?_eq_none (by omega), List.getElem?_eq_none (by omega)]
  have hnrl : ∀ b ∈ nw, b.2.1.length ≤ 20 := fun b hb => by
    obtain ⟨t, ht, e⟩ := List.getElem_of_mem hb
    have e1 : nw[t]? = some b := by rw [List.getElem?_eq_getElem ht, e]
    by_cases hm : t < M
    · rw [hnd t _ hm e1]
      obtain ⟨b2, e3, _, h20, _⟩ := hpm.2.2 t hm
      unfold dueOf
      rw [e3]
      show (mk _ _ b2.2.1).length ≤ 20
      rw [mk_len]; exact h20
    · have tM : t = M := by omega
      subst tM
      have e3 := List.getElem?_eq_getElem (l := ms) (i := t) (by omega)
      rw [hnr _ _ e1 e3]
      exact (hrm _ (List.mem_of_getElem? e3)).2
  refine Cl.u0pr (cl_is_so x hnb₈.body hnb₈.tys hnb₈.spo (kk₈ _ _ (by first | exact List.not_mem_nil | simp) hq) hnb₈.bh.bb hds he hnrl (by omega)) O ?_
  rintro σ₉ k₉
  refine OpB.bool ⟨fun h => (by cases h), fun _ => ?_⟩
  have hnb₉ := hnb₈.keep k₉
  have kk₉ := kk₈.trans k₉
  obtain ⟨ks, ksl, hsp₀⟩ := Spoil.start hnb₉ kk₉ hnrl
  have hN := hnb₉.nbl
  have hNl := hnb₉.nlo
  have hNs := hnb₉.nsp
  refine WPS.nil (WPS.cons (WPX.forS O (WPI.list O ?_)))
  obtain ⟨md, m1, m2⟩ := hnb₉.body
  refine WPE.attr ?_; refine WPE.name rfl ?_
  refine Op1.attr O m1 m2 (by rfl) ⟨by rfl, by rfl, by rfl⟩ ?_
  refine ⟨bl', _, rfl, hsp₀.list, fun t σ' => Spoil σ₆ σ' mi lo' bl' sp' ks nw t, hsp₀, fun t σ' h => h.list, fun t p σ' e h => ?_, fun σ' h => ?_⟩
  · rw [List.getElem?_map] at e
    obtain ⟨k, ek, rfl⟩ := Option.map_eq_some_iff.mp e
    have tl := (List.getElem?_eq_some_iff.mp ek).1
    have eb := List.getElem?_eq_getElem (l := nw) (i := t) (by omega)
    generalize nw[t] = b at eb
    obtain ⟨g1, g2, ⟨e', g3⟩, l, g4, g5⟩ := h.blk t k b ek eb
    refine WPA.name O (kof hs' rfl) ?_
    refine WPS.cons ?_; refine WPX.expr ?_ (notInter O); refine WPE.bmeth (T := "list") PySem.F.plainAttrs_list PySem.F.slot_list_append PySem.F.type_list_append (.inl rfl) ?_; refine WPE.item ?_; refine WPE.name rfl ?_; refine WPE.cint ?_; refine Op2.listAt g3 (by decide) (by rfl) ?_ (by decide)
    refine ⟨_, _, rfl, g4, rfl, ?_⟩
    refine WPL.cons ?_; refine WPE.tuple ?_; refine WPL.args (by rfl) ?_
    refine ⟨by simp, WPL.nil ?_⟩
    refine OpN.append g4 (by rw [List.length_map]; omega) ?_
    have h1 := h.rows (e := [.str "nop"]) hN ek eb g4 g5
    generalize (σ'.set b.1 (.list (l.map PV.tup ++ [.tup [.str "nop"]]))) = σa at h1
    obtain ⟨_, _, ⟨e'', g3⟩, _⟩ := h1.blk t k b ek eb
    refine WPS.cons ?_; refine WPX.setItem ?_; refine WPE.tupArgs (by rfl) ?_
    refine WPE.name rfl ?_; refine WPE.cint ?_
    refine OpU.lset g3 (by decide) (by simp) (by simp) ?_
    exact WPS.nil ⟨Sub.cons rfl Sub.refl, h1.ends (e := [.str "return"]) hN ek eb g3⟩
  have tl : (List.map PV.ref ks).length ≤ 6 := by rw [List.length_map]; omega
  generalize (List.map PV.ref ks).length = T at h tl
  obtain ⟨md', m1, m2⟩ := h.body
  obtain ⟨ll, hlo', hll⟩ := h.lol
  refine WPS.cons ?_; refine WPX.expr ?_ (notInter O); refine WPE.bmeth (T := "list") PySem.F.plainAttrs_list PySem.F.slot_list_append PySem.F.type_list_append (.inl rfl) ?_; refine WPE.attr ?_; refine WPE.name rfl ?_
  refine Op1.attr O m1 m2 (by rfl) ⟨by rfl, by rfl, by rfl⟩ ?_
  refine ⟨lo', _, rfl, hlo', rfl, ?_⟩
  refine WPL.cons ?_; refine WPE.tuple ?_; refine WPL.cons ?_; refine WPE.call0 O (fa := 435) (kof hs' rfl) rfl rfl ?_
  refine Cl.op (Cl.mono (cl_byte x) ?_) (O.le (by decide))
  rintro p σ'' ⟨rfl, rfl⟩
  refine WPL.cons ?_; refine WPE.cbool ?_; refine WPL.cons ?_; refine WPE.cnone ?_; refine WPL.nil ?_
  refine ⟨by simp, WPL.nil ?_⟩
  refine OpN.append hlo' (by omega) ?_
  have m1 := getSetNe (d := .list (ll ++ [.tup [.tup [.str "int", .str "u8"], .bool true, .none]])) m1 (i := lo') (by rintro rfl; rw [hlo'] at m1; cases m1)
  have m2 := getSetNe (d := .list (ll ++ [.tup [.tup [.str "int", .str "u8"], .bool true, .none]])) m2 (i := lo') (by rintro rfl; rw [hlo'] at m2; cases m2)
  have m3 := getSetNe (d := .list (ll ++ [.tup [.tup [.str "int", .str "u8"], .bool true, .none]])) h.spo (i := lo') (by rintro rfl; have := h.spo; rw [hlo'] at this; cases this)
  have kkA : Keep [] σ₆ (σ''.set lo' (.list (ll ++ [.tup [.tup [.str "int", .str "u8"], .bool true, .none]]))) := h.keep.setHi hNl
  generalize (σ''.set lo' (.list (ll ++ [.tup [.tup [.str "int", .str "u8"], .bool true, .none]]))) = σb at m1 m2 m3 kkA
  refine WPS.cons ?_; refine WPX.setItem ?_; refine WPE.cint ?_; refine WPE.attr ?_; refine WPE.name rfl ?_
  refine Op1.attr O m1 m2 (by rfl) ⟨by rfl, by rfl, by rfl⟩ ?_
  refine WPE.tupArgs (by rfl) ?_
  refine OpU.tnew O (ks := [0, 1]) m3 (by simp [spotsT]) (by simp [spotsT]) ?_
  have kkB := kkA.setHi (c := .tdict (spotsT ++ [([0, 1], .int 7)])) hNs
  refine WPS.ret ?_; refine WPE.call O (fa := 507) (kof hs' rfl) rfl rfl ?_; refine WPL.args (by rfl) ?_
  obtain ⟨bd, b1, b2⟩ := id hB
  refine Cl.u0pr (cl_is_so x (bi := bi) ⟨bd, kkB _ _ (by first | exact List.not_mem_nil | simp) b1, kkB _ _ (by first | exact List.not_mem_nil | simp) b2⟩ (kkB _ _ (by first | exact List.not_mem_nil | simp) hL) (kkB _ _ (by first | exact List.not_mem_nil | simp) hsp) (kkB _ _ (by first | exact List.not_mem_nil | simp) hq) (hbb.keep kkB (by simp)) (blks_keep hbl kkB rfl) me (fun b hb => (hrm b hb).2) (by omega)) O ?_
  rintro σz _
  rfl
end Mine
end
section
open PySem PySem.W PyProof.Rows PySem.Calls
namespace Mine
theorem said0 : PySem.Challenge.rw_up0060_01.wellSaid = true := by
  unfold OpenLaw.wellSaid OpenRow.wellSaid OpenRow.partSaid looksOpen
  repeat' (with_reducible refine Bool.and_eq_true_iff.mpr ⟨?_, ?_⟩)
  all_goals try rw [PySem.W.Fast.te11788848310118352699]
  all_goals try rw [PySem.W.Fast.te8377067652309620493]
  all_goals try rw [PySem.W.Fast.te8326940854005059898]
  all_goals try rw [PySem.W.Fast.te17119622794617984870]
  all_goals decide +kernel
theorem final : PySem.Challenge.rw_up0060_01.Holds := by
  refine holds_law said0 fun said => ?_
  refine holds_open (q := hd.view_39) (loose := loose) (Xt := Xt) (XP := XL hd.view_39 []) (Yf := HK.obs) (Ya := HK.val) (YP := HK.says) (N := 6578) left (Hook.of HK) (Hook.keeps HK) (fun s e => xl_of s (Bool.and_eq_true_iff.mp e).1) XL.keeps (by rfl) (by rfl) (by rfl) (fun s e => recFacts_of (Bool.and_eq_true_iff.mp e).2) (by rfl) said (by decide +kernel) ⟨rfl, rfl, rfl, rfl, rfl, by decide +kernel⟩ ?hw ?hc
  case hw => w_witness2
  case hc =>
    intro w s₀ s₁ mg mb G Y fa o pm cd doc dV kV ho hd hcd hD hmg hg args vals as hpre hlay hrd hwl hlo
    have KX := kIn_of Y
    refine Ground.open G ?_
    intro T B D TE TW
    obtain ⟨cdA, a6, he, B0⟩ := based_of_top T rfl hmg ho hd
    have he' : cd = _ := he
    subst he'
    clear he
    clear hmg
    wrow_args hpre hlay hrd hwl hlo
    all_goals (
      first | refine callC_kw (enter_call ?_) | refine enter_call ?_ | refine callC_kw (enter_callW ?_) | refine enter_callW ?_ | w_how
      w_top on
      try refine codeAny_mono ?_ (fun _ _ g => GoodW.toG g)
      have K0 := below_caller (Top.heap T)
      w_call any ho hd hcd hD T Fr0)
    rename_i ns hs hlay0 hLay hr1 hl2 l4 l3 la vs l0 hL ra w1 r0 hI hr hc1 hc0 h₁ N0
    let x : Px := ⟨pw, w, looseW Mine.hd.view_39 loose, ExcName.means s₀.heap, mg, mb⟩
    let F : FX := ⟨callerA, callerA.deeper (envOf (Str.ofString "law") (fS (st 49)) s₁.heap.objs.size fa (.ref cdA)), s₁.heap, s₁.heap, [], envOf (Str.ofString "law") (fS (st 49)) s₁.heap.objs.size fa (.ref cdA), s₁.heap.objs.size, s₁.gens, s₁.os⟩
    have O : F.Ok (GG x) 17 := ⟨K0, KX, T, rfl, rfl, rfl, rfl, rfl, Nat.le_of_ble_eq_true rfl, Nat.le_of_ble_eq_true rfl⟩
    have I : Inv (GG x) F (fun y => List.lookup y [((Str.ofString "script"), Value.ref la)].reverse) [] [] { heap := h₁, gens := s₁.gens, drawn := s₁.drawn, toks := s₁.toks + 1, os := s₁.os } :=
      ⟨Fr0, List.nodup_nil, rfl, (fun a m => by cases m), (fun i a c e => by cases e), rfl, rfl⟩
    have R : ER F.L (fun y => List.lookup y [((Str.ofString "script"), Value.ref la)].reverse) F.env h₁ [] [((Str.ofString "script"), .lst (intsPV ns))] := by
      refine ⟨rfl, rfl, rfl, fun y p e => ?_⟩
      obtain ⟨rfl, rfl⟩ := lookup1 e
      refine ⟨.ref la, .own rfl rfl rfl, ?_⟩
      obtain ⟨oL, gL, r⟩ := hL
      rw [VR]
      exact ⟨la, vs, rfl, by simp, ⟨oL, Fr0.keep _ _ gL, r⟩, ints_vrs hI⟩
    refine wpm (law_wps x (ns := ns) O rfl rfl _ _ _ I R) fun fl s' H => ?_
    obtain ⟨m', σ', as', I', S', q⟩ := H
    cases fl with
    | next => exact q.elim fun _ z => z.2.elim
    | ret v =>
      obtain ⟨p, hv, rfl⟩ := q
      have e := hv.eBool
      subst e
      refine goodW_bool I'.fr (I'.gens.trans hg) (raisesW_false ?_) ?_ I'.os
      · wrow_none_raised
      · wrow_post
    | brk => exact q.elim
    | cont => exact q.elim
end Mine
end
theorem PySem.Challenge.cw_up0060_01_holds : PySem.Challenge.rw_up0060_01.Holds := by
  exact Mine.final
