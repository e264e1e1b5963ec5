import PyProof.Rows.All
import Wide.All
import OpenK.AllK
import Wide.FinOn
import HandS.ForMost
import HandS.Deep
import HandS.TupAny
import KE.SortData
import HandS.Conv
import HandS.Zip
import HandS.Rev
import HandS.More
import HandS.TupLen
import HandS.IsInst
import HandS.TupSets
import HandS.Style
import HandS.Text
import HandS.RevTup
import PyProof.ListNew
import PyProof.SeqWrite
import HandS.ForExc
import HandS.ExcIs
import HandS.HotCalls
import HandS.SetFor
import HandS.Strs
import HandS.Iter
import KE.KDictWalk
import KE.KDictCopyH
import KE.KDictPairs
import HandS.ListEq
import HandS.DictEq
import HandS.DeepEq
import PyProof.NeKinds
import KE.KDictKeyed
import HandS.Wide
import KE.KDictDisplayH
import PyProof.TupleOfSeq
import HandS.TupLe
import KE.KRevIter
import KE.KDictZip
import KE.KItemsList
import HandS.ListItems
import KE.DataFind
import HandS.DictTup
import PyProof.EqKinds
import KE.KEqNest
import PyProof.StrOps2
import KE.DataMinMax
import KE.KeyNested
import HandS.WideBits
import HandS.Ends
import PySem.Challenge.RW_seamwright_k22_steps_by_little_squares
set_option Elab.async false
set_option linter.all false
set_option maxRecDepth 100000
set_option maxHeartbeats 4000000
namespace TL
open PySem PySem.Spec PyProof.Rows L2
def isDct : HO → Bool
  | .dT _ => true
  | .dK _ => true
  | _ => false
def Kn (B H : Hp) : Prop := ∀ a u, B a = some u → H a = some u ∨ (isDct u = true ∧ ∃ o, H a = some (.frz o u))
theorem Kn.x {B H : Hp} (k : Kn B H) {a : Addr} {u : HO} (h : B a = some u) (d : isDct u = false) : H a = some u := by
  rcases k a u h with e | ⟨e, _⟩
  · exact e
  · rw [d] at e; cases e
theorem Kn.rd {B H : Hp} (k : Kn B H) {a : Addr} {u : HO} (h : B a = some u) : Rd H a u := by
  rcases k a u h with e | ⟨_, e⟩
  · exact .inl e
  · exact .inr e
def isTup : HO → Bool
  | .tup _ => true
  | _ => false
def Small : HO → Prop
  | .lst xs => xs.length ≤ sizeLine
  | .tup xs => xs.length ≤ sizeLine
  | .dK kvs => kvs.length ≤ sizeLine
  | .dT kvs => kvs.length ≤ sizeLine
  | .frz _ (.dK kvs) => kvs.length ≤ sizeLine
  | .frz _ (.dT kvs) => kvs.length ≤ sizeLine
  | _ => True
structure Grow (ms lk : List Addr) (B0 H0 B H : Hp) : Prop where
  bb : Same B0 B
  kn : Kn B H
  hh : ∀ b o, b ∉ ms → H0 b = some o → H b = some o ∨ (isDct o = true ∧ B b = some o ∧ ∃ od, H b = some (.frz od o))
  mm : ∀ b o, H0 b = some o → ∃ o', H b = some o' ∧ (isTup o = false → isTup o' = false)
  nw : ∀ b o, H0 b = some o → isTup o = false → B b = B0 b
  hl : ∀ b ∈ lk, ∃ od o, H b = some (.frz od o)
  ml : ∀ b ∈ ms, H0 b ≠ none ∧ B b = none ∧ ∃ o, H b = some o ∧ isTup o = false
  sm : ∀ b o, H b = some o → Small o
theorem Grow.refl {ms : List Addr} {B H : Hp} (k : Kn B H) (hm : ∀ b ∈ ms, B b = none ∧ ∃ o, H b = some o ∧ isTup o = false) (sm : ∀ b o, H b = some o → Small o) : Grow ms [] B H B H :=
  ⟨Same.refl _, k, fun b o _ h => .inl h, fun _ o h => ⟨o, h, id⟩, fun _ _ _ _ => rfl, fun _ h => absurd h List.not_mem_nil, fun b h => ⟨(fun e => by
    obtain ⟨o, e', _⟩ := (hm b h).2
    rw [e] at e'; exact absurd e' (fun z => nomatch z)), hm b h⟩, sm⟩
theorem Grow.old {ms lk : List Addr} {B0 H0 B H : Hp} (g : Grow ms lk B0 H0 B H) {b : Addr} (h : H b = none) : H0 b = none := by
  cases e : H0 b with
  | none => rfl
  | some o =>
    obtain ⟨o', e', _⟩ := g.mm b o e
    rw [h] at e'; cases e'
theorem Grow.trans {ms ms' lk : List Addr} {B0 H0 B1 H1 B2 H2 : Hp} (g : Grow ms lk B0 H0 B1 H1) (k : Grow ms' [] B1 H1 B2 H2) (hm : ∀ b ∈ ms', (b ∈ ms ∨ H0 b = none) ∧ b ∉ lk) :
    Grow ms lk B0 H0 B2 H2 where
  bb := g.bb.trans k.bb
  kn := k.kn
  hh := fun b o nb h => by
    have nb' : b ∉ ms' := fun e => by
      rcases (hm b e).1 with e | e
      · exact nb e
      · rw [h] at e; cases e
    rcases g.hh b o nb h with e2 | ⟨e1, e0, od, e2⟩
    · rcases k.hh b _ nb' e2 with e3 | e3
      · exact .inl e3
      · exact .inr e3
    · rcases k.hh b _ nb' e2 with e3 | ⟨e3, _⟩
      · exact .inr ⟨e1, k.bb b o e0, od, e3⟩
      · cases e3
  mm := fun b o h => by
    obtain ⟨o1, h1, t1⟩ := g.mm b o h
    obtain ⟨o2, h2, t2⟩ := k.mm b o1 h1
    exact ⟨o2, h2, fun t => t2 (t1 t)⟩
  nw := fun b o h t => by
    obtain ⟨o1, h1, t1⟩ := g.mm b o h
    exact (k.nw b o1 h1 (t1 t)).trans (g.nw b o h t)
  hl := fun b h => by
    obtain ⟨od, o, e⟩ := g.hl b h
    rcases k.hh b _ (fun z => (hm b z).2 h) e with e3 | ⟨e3, _⟩
    · exact ⟨od, o, e3⟩
    · cases e3
  ml := fun b h => by
    obtain ⟨z, n, o, e, t⟩ := g.ml b h
    obtain ⟨o', e', t'⟩ := k.mm b o e
    exact ⟨z, (k.nw b o e t).trans n, o', e', t' t⟩
  sm := k.sm
structure Rp (α : Type) where
  rel : Hp → V → α → Prop
  mono : ∀ {B B' : Hp} {v : V} {a : α}, Same B B' → rel B v a → rel B' v a
def rI : Rp Int := ⟨fun _ v a => v = .int a, fun _ h => h⟩
def rB : Rp Bool := ⟨fun _ v a => v = .bl a, fun _ h => h⟩
def rS : Rp Str := ⟨fun _ v a => v = .str a, fun _ h => h⟩
def rN : Rp Unit := ⟨fun _ v _ => v = .non, fun _ h => h⟩
theorem paired_mono {α : Type} {r : Rp α} {B B' : Hp} (e : Same B B') {vs : List V} {l : List α} (h : Paired (r.rel B) vs l) : Paired (r.rel B') vs l :=
  h.mono fun _ _ h => r.mono e h
def rT {α : Type} (r : Rp α) : Rp (List α) :=
  ⟨fun B v l => ∃ p vs, v = .ref p ∧ B p = some (.tup vs) ∧ Paired (r.rel B) vs l, fun e h => by
    obtain ⟨p, vs, h1, h2, h3⟩ := h
    exact ⟨p, vs, h1, e _ _ h2, paired_mono e h3⟩⟩
def rL {α : Type} (r : Rp α) : Rp (List α) :=
  ⟨fun B v l => ∃ p vs, v = .ref p ∧ B p = some (.lst vs) ∧ Paired (r.rel B) vs l, fun e h => by
    obtain ⟨p, vs, h1, h2, h3⟩ := h
    exact ⟨p, vs, h1, e _ _ h2, paired_mono e h3⟩⟩
def rP {α β : Type} (r : Rp α) (s : Rp β) : Rp (α × β) :=
  ⟨fun B v a => ∃ p x y, v = .ref p ∧ B p = some (.tup [x, y]) ∧ r.rel B x a.1 ∧ s.rel B y a.2, fun e h => by
    obtain ⟨p, x, y, h1, h2, h3, h4⟩ := h
    exact ⟨p, x, y, h1, e _ _ h2, r.mono e h3, s.mono e h4⟩⟩
def rP3 {α β γ : Type} (r : Rp α) (s : Rp β) (t : Rp γ) : Rp (α × β × γ) :=
  ⟨fun B v a => ∃ p x y z, v = .ref p ∧ B p = some (.tup [x, y, z]) ∧ r.rel B x a.1 ∧ s.rel B y a.2.1 ∧ t.rel B z a.2.2, fun e h => by
    obtain ⟨p, x, y, z, h1, h2, h3, h4, h5⟩ := h
    exact ⟨p, x, y, z, h1, e _ _ h2, r.mono e h3, s.mono e h4, t.mono e h5⟩⟩
def rO {α : Type} (r : Rp α) : Rp (Option α) :=
  ⟨fun B v o => match o with
    | none => v = .non
    | some a => r.rel B v a, fun {_ _ _ o} e h => by
    cases o with
    | none => exact h
    | some a => exact r.mono e h⟩
def rScr (K : PySem.W.Frag) : Rp (List Int) :=
  ⟨fun B v l => ∃ p, v = .ref p ∧ SqL K B p (l.map V.int), fun e h => by
    obtain ⟨p, h1, h2⟩ := h
    exact ⟨p, h1, e.seq h2⟩⟩
abbrev tk (k : List Int) : List Key := k.map Sum.inl
def DTr {α : Type} (r : Rp α) (B : Hp) (kvs : List (List Key × V)) (l : List (List Int × α)) : Prop :=
  Paired (fun p q => p.1 = tk q.1 ∧ r.rel B p.2 q.2) kvs l
def DKr {α : Type} (r : Rp α) (B : Hp) (kvs : List (Key × V)) (l : List (Int × α)) : Prop :=
  Paired (fun p q => p.1 = Sum.inl q.1 ∧ r.rel B p.2 q.2) kvs l
theorem DTr.mono {α : Type} {r : Rp α} {B B' : Hp} (e : Same B B') {kvs : List (List Key × V)} {l : List (List Int × α)} (h : DTr r B kvs l) : DTr r B' kvs l :=
  Paired.mono (fun _ _ h => ⟨h.1, r.mono e h.2⟩) h
theorem DKr.mono {α : Type} {r : Rp α} {B B' : Hp} (e : Same B B') {kvs : List (Key × V)} {l : List (Int × α)} (h : DKr r B kvs l) : DKr r B' kvs l :=
  Paired.mono (fun _ _ h => ⟨h.1, r.mono e h.2⟩) h
def rDT {α : Type} (r : Rp α) : Rp (List (List Int × α)) :=
  ⟨fun B v l => ∃ p kvs, v = .ref p ∧ B p = some (.dT kvs) ∧ DTr r B kvs l, fun e h => by
    obtain ⟨p, kvs, h1, h2, h3⟩ := h
    exact ⟨p, kvs, h1, e _ _ h2, h3.mono e⟩⟩
def rDK {α : Type} (r : Rp α) : Rp (List (Int × α)) :=
  ⟨fun B v l => ∃ p kvs, v = .ref p ∧ B p = some (.dK kvs) ∧ DKr r B kvs l, fun e h => by
    obtain ⟨p, kvs, h1, h2, h3⟩ := h
    exact ⟨p, kvs, h1, e _ _ h2, h3.mono e⟩⟩
theorem lt_get {α : Type u} {l : List α} {i : Nat} {x : α} (h : l[i]? = some x) : i < l.length := by
  rcases Nat.lt_or_ge i l.length with q | q
  · exact q
  · rw [List.getElem?_eq_none q] at h; cases h
theorem lt_set {α : Type u} {l : List α} {i j : Nat} {x y : α} (h : (l.set i y)[j]? = some x) : j < l.length := by
  have := lt_get h
  rw [List.length_set] at this
  exact this
structure RF (α : Type) where
  rel : Hp → V → α → List Addr → Prop
  mono : ∀ {B B' : Hp} {v : V} {a : α} {L : List Addr}, Same B B' → rel B v a L → rel B' v a L
  lst : ∀ {B : Hp} {v : V} {a : α} {L : List Addr}, rel B v a L → ∀ q ∈ L, ∃ o, B q = some o ∧ isTup o = false
structure OX where
  ok : Hp → Addr → HO → Prop
  mono : ∀ {B B' : Hp} {p : Addr} {o : HO}, Same B B' → ok B p o → ok B' p o
  nt : ∀ {B : Hp} {p : Addr} {o : HO}, ok B p o → isTup o = false
inductive Ent : Type 1 where
  | any
  | dat {α : Type} (r : Rp α) (a : α)
  /-- a list | dicts of this def's own (m = false), or one handed in to be changed (m = true) -/
  | own (m : Bool) {α : Type} (r : Rp α) (l : List α)
  | ownT (m : Bool) {α : Type} (r : Rp α) (d : List (List Int × α))
  | ownK (m : Bool) {α : Type} (r : Rp α) (d : List (Int × α))
  /-- one's own thing of any kind -/
  | ownX (m : Bool) (F : OX)
  /-- told whole: known, its lists made since the def began, each but once in it -/
  | tld {α : Type} (F : RF α) (a : α)
def Ent.mine : Ent → Bool
  | .own _ _ _ => true
  | .ownT _ _ _ => true
  | .ownK _ _ _ => true
  | .ownX _ _ => true
  | _ => false
def Ent.odd : Ent → Bool
  | .any => false
  | .dat _ _ => false
  | _ => true
theorem odd_mine {e : Ent} (h : e.odd = false) : e.mine = false := by
  cases e <;> first | rfl | cases h
structure C0 where
  B0 : Hp
  H0 : Hp
  ms : List Addr
  lk : List Addr
  /-- what is held besides -/
  B1 : Hp
def Mine (C : C0) (B : Hp) (m : Bool) (p : Addr) : Prop := B p = none ∧ p ∉ C.lk ∧ (if m = true then p ∈ C.ms ∧ C.H0 p ≠ none else C.H0 p = none)
def EntOk (C : C0) (B H : Hp) : Ent → Option V → Prop
  | .any, _ => True
  | .dat r a, ov => ∃ v, ov = some v ∧ r.rel B v a
  | .own m r l, ov => ∃ p vs, ov = some (.ref p) ∧ H p = some (.lst vs) ∧ Mine C B m p ∧ Paired (r.rel B) vs l
  | .ownT m r d, ov => ∃ p kvs, ov = some (.ref p) ∧ H p = some (.dT kvs) ∧ Mine C B m p ∧ DTr r B kvs d
  | .ownK m r d, ov => ∃ p kvs, ov = some (.ref p) ∧ H p = some (.dK kvs) ∧ Mine C B m p ∧ DKr r B kvs d
  | .ownX m F, ov => ∃ p o, ov = some (.ref p) ∧ H p = some o ∧ Mine C B m p ∧ F.ok B p o
  | .tld F a, ov => ∃ v L, ov = some v ∧ F.rel B v a L ∧ L.Nodup ∧ ∀ q ∈ L, C.H0 q = none
structure Ok (C : C0) (G : List Ent) (B H : Hp) (σ : L2.St) : Prop where
  g : Grow C.ms C.lk C.B0 C.H0 B H
  h1 : Same C.B1 B
  len : σ.length = G.length
  ent : ∀ (i : Nat) (e : Ent) (ov : Option V), G[i]? = some e → σ[i]? = some ov → EntOk C B H e ov
  sep : ∀ (i j : Nat) (e e' : Ent) (p : Addr), i ≠ j → G[i]? = some e → G[j]? = some e' → e.mine = true → e'.mine = true → σ[i]? = some (some (.ref p)) → σ[j]? = some (some (.ref p)) → False
def Apart (G : List Ent) (σ : L2.St) (p : Addr) : Prop := ∀ (j : Nat) (e : Ent), G[j]? = some e → e.mine = true → σ[j]? ≠ some (some (.ref p))
theorem EntOk.mine_at {C : C0} {B H : Hp} {e : Ent} {ov : Option V} (h : EntOk C B H e ov) (m : e.mine = true) : ∃ p o, ov = some (.ref p) ∧ H p = some o ∧ B p = none ∧ p ∉ C.lk ∧ (p ∈ C.ms ∨ C.H0 p = none) ∧ isTup o = false := by
  cases e with
  | any => cases m
  | dat r a => cases m
  | tld F a => cases m
  | own mm r l =>
    obtain ⟨p, vs, h1, h2, ⟨h3, h4, h5⟩, _⟩ := h
    refine ⟨p, _, h1, h2, h3, h4, ?_⟩
    cases mm with
    | true => exact ⟨.inl h5.1, rfl⟩
    | false => exact ⟨.inr h5, rfl⟩
  | ownT mm r l =>
    obtain ⟨p, vs, h1, h2, ⟨h3, h4, h5⟩, _⟩ := h
    refine ⟨p, _, h1, h2, h3, h4, ?_⟩
    cases mm with
    | true => exact ⟨.inl h5.1, rfl⟩
    | false => exact ⟨.inr h5, rfl⟩
  | ownK mm r l =>
    obtain ⟨p, vs, h1, h2, ⟨h3, h4, h5⟩, _⟩ := h
    refine ⟨p, _, h1, h2, h3, h4, ?_⟩
    cases mm with
    | true => exact ⟨.inl h5.1, rfl⟩
    | false => exact ⟨.inr h5, rfl⟩
  | ownX mm l =>
    obtain ⟨p, vs, h1, h2, ⟨h3, h4, h5⟩, h6⟩ := h
    refine ⟨p, _, h1, h2, h3, h4, ?_⟩
    cases mm with
    | true => exact ⟨.inl h5.1, l.nt h6⟩
    | false => exact ⟨.inr h5, l.nt h6⟩
theorem EntOk.keep {C : C0} {B H B' H' : Hp} {e : Ent} {ov : Option V} (h : EntOk C B H e ov) (s : Same B B') (k : ∀ p o, ov = some (.ref p) → e.mine = true → H p = some o → H' p = some o ∧ B' p = none) : EntOk C B' H' e ov := by
  cases e with
  | any => trivial
  | dat r a =>
    obtain ⟨v, h1, h2⟩ := h
    exact ⟨v, h1, r.mono s h2⟩
  | tld F a =>
    obtain ⟨v, L, h1, h2, h3, h4⟩ := h
    exact ⟨v, L, h1, F.mono s h2, h3, h4⟩
  | own mm r l =>
    obtain ⟨p, vs, h1, h2, ⟨h3, h4, h5⟩, h6⟩ := h
    obtain ⟨k1, k2⟩ := k p _ h1 rfl h2
    exact ⟨p, vs, h1, k1, ⟨k2, h4, h5⟩, paired_mono s h6⟩
  | ownT mm r l =>
    obtain ⟨p, vs, h1, h2, ⟨h3, h4, h5⟩, h6⟩ := h
    obtain ⟨k1, k2⟩ := k p _ h1 rfl h2
    exact ⟨p, vs, h1, k1, ⟨k2, h4, h5⟩, h6.mono s⟩
  | ownK mm r l =>
    obtain ⟨p, vs, h1, h2, ⟨h3, h4, h5⟩, h6⟩ := h
    obtain ⟨k1, k2⟩ := k p _ h1 rfl h2
    exact ⟨p, vs, h1, k1, ⟨k2, h4, h5⟩, h6.mono s⟩
  | ownX mm l =>
    obtain ⟨p, vs, h1, h2, ⟨h3, h4, h5⟩, h6⟩ := h
    obtain ⟨k1, k2⟩ := k p _ h1 rfl h2
    exact ⟨p, vs, h1, k1, ⟨k2, h4, h5⟩, l.mono s h6⟩
theorem Ok.learn {C : C0} {G : List Ent} {B H : Hp} {σ : L2.St} (O : Ok C G B H σ) {p : Addr} {o : HO} (h : H p = none) (hs : Small o) : Ok C G (upd B p o) (upd H p o) σ ∧ Same B (upd B p o) := by
  have hB : B p = none := by
    cases e : B p with
    | none => rfl
    | some u =>
      rcases O.g.kn p u e with e | ⟨_, _, e⟩ <;> rw [h] at e <;> cases e
  have h0 : C.H0 p = none := O.g.old h
  have sB : Same B (upd B p o) := fun b x e => by
    rw [upd_ne (ne_of_none e hB)]; exact e
  refine ⟨⟨⟨O.g.bb.trans sB, fun a u e => ?_, fun b x nb e => ?_, fun b x e => ?_, fun b x e t => ?_, fun b e => ?_, fun b e => ?_, fun b x e => ?_⟩, O.h1.trans sB, O.len, fun i e ov hi hs => ?_, O.sep⟩, sB⟩
  · by_cases q : a = p
    · subst q; rw [upd_same] at e ⊢; exact .inl e
    · rw [upd_ne q] at e ⊢; exact O.g.kn a u e
  · have q : b ≠ p := ne_of_none e h0
    rw [upd_ne q]
    rcases O.g.hh b x nb e with z | ⟨z1, z2, z3⟩
    · exact .inl z
    · exact .inr ⟨z1, sB b x z2, z3⟩
  · have q : b ≠ p := ne_of_none e h0
    rw [upd_ne q]; exact O.g.mm b x e
  · have q : b ≠ p := ne_of_none e h0
    rw [upd_ne q]; exact O.g.nw b x e t
  · obtain ⟨od, x, e⟩ := O.g.hl b e
    exact ⟨od, x, by rw [upd_ne (ne_of_none e h)]; exact e⟩
  · obtain ⟨z1, z2, z3, z4, z5⟩ := O.g.ml b e
    have q : b ≠ p := ne_of_none z4 h
    exact ⟨z1, by rw [upd_ne q]; exact z2, z3, by rw [upd_ne q]; exact z4, z5⟩
  · by_cases q : b = p
    · subst q; rw [upd_same] at e; cases e; exact hs
    · rw [upd_ne q] at e; exact O.g.sm b x e
  · refine (O.ent i e ov hi hs).keep sB fun q x e1 e2 e3 => ?_
    have q' : q ≠ p := ne_of_none e3 h
    obtain ⟨q2, o2, r1, _, r3, _⟩ := (O.ent i e ov hi hs).mine_at e2
    rw [e1] at r1; cases r1
    exact ⟨by rw [upd_ne q']; exact e3, by rw [upd_ne q']; exact r3⟩
theorem Ok.made {C : C0} {G : List Ent} {B H : Hp} {σ : L2.St} (O : Ok C G B H σ) {p : Addr} {o : HO} (h : H p = none) (hs : Small o) : Ok C G B (upd H p o) σ ∧ (B p = none ∧ p ∉ C.lk ∧ C.H0 p = none) ∧ Apart G σ p ∧ p ∉ C.ms := by
  have hB : B p = none := by
    cases e : B p with
    | none => rfl
    | some u =>
      rcases O.g.kn p u e with e | ⟨_, _, e⟩ <;> rw [h] at e <;> cases e
  have h0 : C.H0 p = none := O.g.old h
  have hk : p ∉ C.lk := fun z => by
    obtain ⟨od, x, e⟩ := O.g.hl p z
    rw [h] at e; cases e
  refine ⟨⟨⟨O.g.bb, fun a u e => ?_, fun b x nb e => ?_, fun b x e => ?_, O.g.nw, fun b e => ?_, fun b e => ?_, fun b x e => ?_⟩, O.h1, O.len, fun i e ov hi hs => ?_, O.sep⟩, ⟨hB, hk, h0⟩, fun j e hj hm hs => ?_, fun z => by
    obtain ⟨_, _, _, z4, _⟩ := O.g.ml p z
    rw [h] at z4; cases z4⟩
  · have q : a ≠ p := ne_of_none e hB
    rw [upd_ne q]; exact O.g.kn a u e
  · have q : b ≠ p := ne_of_none e h0
    rw [upd_ne q]
    rcases O.g.hh b x nb e with z | ⟨z1, z2, z3⟩
    · exact .inl z
    · exact .inr ⟨z1, z2, z3⟩
  · have q : b ≠ p := ne_of_none e h0
    rw [upd_ne q]; exact O.g.mm b x e
  · obtain ⟨od, x, e⟩ := O.g.hl b e
    exact ⟨od, x, by rw [upd_ne (ne_of_none e h)]; exact e⟩
  · obtain ⟨z1, z2, z3, z4, z5⟩ := O.g.ml b e
    have q : b ≠ p := ne_of_none z4 h
    exact ⟨z1, z2, z3, by rw [upd_ne q]; exact z4, z5⟩
  · by_cases q : b = p
    · subst q; rw [upd_same] at e; cases e; exact hs
    · rw [upd_ne q] at e; exact O.g.sm b x e
  · refine (O.ent i e ov hi hs).keep (Same.refl _) fun q x e1 e2 e3 => ?_
    have q' : q ≠ p := ne_of_none e3 h
    obtain ⟨q2, o2, r1, _, r3, _⟩ := (O.ent i e ov hi hs).mine_at e2
    rw [e1] at r1; cases r1
    exact ⟨by rw [upd_ne q']; exact e3, r3⟩
  · obtain ⟨q2, o2, r1, r2, _⟩ := (O.ent j e _ hj hs).mine_at hm
    cases r1; rw [h] at r2; cases r2
theorem Ok.known {C : C0} {G : List Ent} {B H : Hp} {σ : L2.St} (O : Ok C G B H σ) {p : Addr} {o : HO} (hH : H p = some o) (hB : B p = none) (h0 : C.H0 p = none ∨ isTup o = true) (ha : Apart G σ p) : Ok C G (upd B p o) H σ ∧ Same B (upd B p o) := by
  have sB : Same B (upd B p o) := fun b x e => by
    rw [upd_ne (ne_of_none e hB)]; exact e
  refine ⟨⟨⟨O.g.bb.trans sB, fun a u e => ?_, fun b x nb e => ?_, O.g.mm, fun b x e t => ?_, O.g.hl, fun b e => ?_, O.g.sm⟩, O.h1.trans sB, O.len, fun i e ov hi hs => ?_, O.sep⟩, sB⟩
  · by_cases q : a = p
    · subst q; rw [upd_same] at e; cases e; exact .inl hH
    · rw [upd_ne q] at e; exact O.g.kn a u e
  · rcases O.g.hh b x nb e with z | ⟨z1, z2, z3⟩
    · exact .inl z
    · exact .inr ⟨z1, sB b x z2, z3⟩
  · have q : b ≠ p := fun q => by
      rcases h0 with h0 | h0
      · rw [q, h0] at e; cases e
      · obtain ⟨o', e1, e2⟩ := O.g.mm b x e
        rw [q, hH] at e1; cases e1
        rw [e2 t] at h0; cases h0
    rw [upd_ne q]; exact O.g.nw b x e t
  · obtain ⟨z1, z2, z3, z4, z5⟩ := O.g.ml b e
    have q : b ≠ p := fun q => by
      subst q
      rcases h0 with h0 | h0
      · exact z1 h0
      · rw [hH] at z4; cases z4; rw [h0] at z5; cases z5
    exact ⟨z1, by rw [upd_ne q]; exact z2, z3, z4, z5⟩
  · refine (O.ent i e ov hi hs).keep sB fun q x e1 e2 e3 => ⟨e3, ?_⟩
    have q' : q ≠ p := fun z => ha i e hi e2 (by rw [hs, e1, z])
    obtain ⟨q2, o2, r1, _, r3, _⟩ := (O.ent i e ov hi hs).mine_at e2
    rw [e1] at r1; cases r1
    rw [upd_ne q']; exact r3
theorem Ok.change {C : C0} {G : List Ent} {B H : Hp} {σ : L2.St} (O : Ok C G B H σ) {i : Nat} {e e' : Ent} {p : Addr} {o : HO} (hi : G[i]? = some e) (hm : e.mine = true) (hm' : e'.mine = true) (hs : σ[i]? = some (some (.ref p))) (hsm : Small o)
    (hn : EntOk C B (upd H p o) e' (some (.ref p))) : Ok C (G.set i e') B (upd H p o) σ := by
  obtain ⟨p', o', r1, r2, r3, r4, r5, r6⟩ := (O.ent i e _ hi hs).mine_at hm
  cases r1
  obtain ⟨p', on, w1, w2, _, _, _, w6⟩ := hn.mine_at hm'
  cases w1
  rw [upd_same] at w2; cases w2
  refine ⟨⟨O.g.bb, fun a u h => ?_, fun b x nb h => ?_, fun b x h => ?_, O.g.nw, fun b h => ?_, fun b h => ?_, fun b x h => ?_⟩, O.h1, by rw [List.length_set]; exact O.len, fun j f ov hj hsj => ?_, fun j k f f' q njk hj hk mj mk sj sk => ?_⟩
  · have q : a ≠ p := ne_of_none h r3
    rw [upd_ne q]; exact O.g.kn a u h
  · by_cases q : b = p
    · subst q
      rcases r5 with r5 | r5
      · exact absurd r5 nb
      · rw [h] at r5; cases r5
    · rw [upd_ne q]; exact O.g.hh b x nb h
  · by_cases q : b = p
    · subst q; rw [upd_same]; exact ⟨_, rfl, fun _ => w6⟩
    · rw [upd_ne q]; exact O.g.mm b x h
  · have q : b ≠ p := fun z => r4 (z ▸ h)
    rw [upd_ne q]; exact O.g.hl b h
  · obtain ⟨z1, z2, z3, z4, z5⟩ := O.g.ml b h
    by_cases q : b = p
    · subst q; exact ⟨z1, z2, _, upd_same, w6⟩
    · exact ⟨z1, z2, z3, by rw [upd_ne q]; exact z4, z5⟩
  · by_cases q : b = p
    · subst q; rw [upd_same] at h; cases h; exact hsm
    · rw [upd_ne q] at h; exact O.g.sm b x h
  · by_cases q : i = j
    · subst q
      have hlt : i < G.length := by
        rw [List.getElem?_eq_some_iff] at hi; exact hi.1
      rw [List.getElem?_set_self hlt] at hj
      cases hj
      rw [hs] at hsj; cases hsj
      exact hn
    · rw [List.getElem?_set_ne q] at hj
      refine (O.ent j f ov hj hsj).keep (Same.refl _) fun p2 x e1 e2 e3 => ?_
      have q' : p2 ≠ p := fun z => O.sep i j e f p q hi hj hm e2 hs (by rw [hsj, e1, z])
      obtain ⟨q2, o2, s1, _, s3, _⟩ := (O.ent j f ov hj hsj).mine_at e2
      rw [e1] at s1; cases s1
      exact ⟨by rw [upd_ne q']; exact e3, s3⟩
  · by_cases qj : i = j
    · subst qj
      rw [List.getElem?_set_ne njk] at hk
      exact O.sep i k e f' q njk hi hk hm mk sj sk
    · rw [List.getElem?_set_ne qj] at hj
      by_cases qk : i = k
      · subst qk
        exact O.sep j i f e q njk hj hi mj hm sj sk
      · rw [List.getElem?_set_ne qk] at hk
        exact O.sep j k f f' q njk hj hk mj mk sj sk
theorem Ok.store {C : C0} {G : List Ent} {B H : Hp} {σ : L2.St} (O : Ok C G B H σ) {i : Nat} {e : Ent} {v : V} (hn : EntOk C B H e (some v)) (ha : e.mine = true → ∀ p, v = .ref p → Apart G σ p) : Ok C (G.set i e) B H (σ.set i (some v)) := by
  refine ⟨O.g, O.h1, by rw [List.length_set, List.length_set]; exact O.len, fun j f ov hj hsj => ?_, fun j k f f' q njk hj hk mj mk sj sk => ?_⟩
  · by_cases q : i = j
    · subst q
      have hlt : i < G.length := by
        exact lt_set hj
      rw [List.getElem?_set_self hlt] at hj
      rw [List.getElem?_set_self (by rw [O.len]; exact hlt)] at hsj
      cases hj; cases hsj
      exact hn
    · rw [List.getElem?_set_ne q] at hj hsj
      exact O.ent j f ov hj hsj
  · by_cases qj : i = j
    · subst qj
      have hlt : i < G.length := by
        exact lt_set hj
      rw [List.getElem?_set_self hlt] at hj
      rw [List.getElem?_set_self (by rw [O.len]; exact hlt)] at sj
      rw [List.getElem?_set_ne njk] at hk sk
      cases hj
      have hv : v = .ref q := Option.some.inj (Option.some.inj sj)
      exact ha mj q hv k f' hk mk sk
    · rw [List.getElem?_set_ne qj] at hj sj
      by_cases qk : i = k
      · subst qk
        have hlt : i < G.length := by
          exact lt_set hk
        rw [List.getElem?_set_self hlt] at hk
        rw [List.getElem?_set_self (by rw [O.len]; exact hlt)] at sk
        cases hk
        have hv : v = .ref q := Option.some.inj (Option.some.inj sk)
        exact ha mk q hv j f hj mj sj
      · rw [List.getElem?_set_ne qk] at hk sk
        exact O.sep j k f f' q njk hj hk mj mk sj sk
theorem Ok.forget {C : C0} {G : List Ent} {B H : Hp} {σ : L2.St} (O : Ok C G B H σ) (i : Nat) (ov : Option V) : Ok C (G.set i .any) B H (σ.set i ov) := by
  refine ⟨O.g, O.h1, by rw [List.length_set, List.length_set]; exact O.len, fun j f o2 hj hsj => ?_, fun j k f f' q njk hj hk mj mk sj sk => ?_⟩
  · by_cases q : i = j
    · subst q
      have hlt : i < G.length := by
        exact lt_set hj
      rw [List.getElem?_set_self hlt] at hj
      cases hj
      trivial
    · rw [List.getElem?_set_ne q] at hj hsj
      exact O.ent j f o2 hj hsj
  · by_cases qj : i = j
    · subst qj
      have hlt : i < G.length := by
        exact lt_set hj
      rw [List.getElem?_set_self hlt] at hj
      cases hj; cases mj
    · rw [List.getElem?_set_ne qj] at hj sj
      by_cases qk : i = k
      · subst qk
        have hlt : i < G.length := by
          exact lt_set hk
        rw [List.getElem?_set_self hlt] at hk
        cases hk; cases mk
      · rw [List.getElem?_set_ne qk] at hk sk
        exact O.sep j k f f' q njk hj hk mj mk sj sk
theorem Ok.slot {C : C0} {G : List Ent} {B H : Hp} {σ : L2.St} (O : Ok C G B H σ) {i : Nat} {e : Ent} (hi : G[i]? = some e) : ∃ ov, σ[i]? = some ov ∧ EntOk C B H e ov := by
  have hlt : i < G.length := (List.getElem?_eq_some_iff.mp hi).1
  have hs : σ[i]? = some (σ[i]'(by rw [O.len]; exact hlt)) := List.getElem?_eq_getElem _
  exact ⟨_, hs, O.ent i e _ hi hs⟩
end TL

namespace TL
open PySem PySem.Spec PyProof.Rows L2
structure TWE (X : Cx) (e : Expr) (σ : L2.St) (H : Hp) (Q : VK) : Prop where
  go : ∀ (pins : List (Addr × Obj)) (s : Shared), Inv X pins σ H s → wpAny (model X.prog X.w) X.A (eval e X.env) (EP X pins σ Q) X.xe s
def wE (X : Cx) (e : Expr) : TE := fun σ H Q => TWE X e σ H Q
structure TWT (X : Cx) (e : Expr) (σ : L2.St) (H : Hp) (Q : Bool → Hp → Prop) : Prop where
  go : ∀ (pins : List (Addr × Obj)) (s : Shared), Inv X pins σ H s → wpAny (model X.prog X.w) X.A (isTrue e X.env (eval e X.env)) (TP X pins σ Q) X.xe s
def wT (X : Cx) (e : Expr) : TT := fun σ H Q => TWT X e σ H Q
structure TWA (X : Cx) (es : List Expr) (σ : L2.St) (H : Hp) (Q : List V → Hp → Prop) : Prop where
  go : ∀ (pos : Pos) (pins : List (Addr × Obj)) (s : Shared), Inv X pins σ H s → wpAny (model X.prog X.w) X.A (spliced (backTo pos (starEach es X.env))) (AP X pins σ Q) X.xe s
def wA (X : Cx) (es : List Expr) : TA := fun σ H Q => TWA X es σ H Q
structure TWSs (X : Cx) (sts : List Stmt) (D : Ends) (σ : L2.St) (H : Hp) : Prop where
  go : ∀ (pins : List (Addr × Obj)) (s : Shared), Inv X pins σ H s → wpAny (model X.prog X.w) X.A (execs sts X.env) (SP X pins D) X.xe s
def wSs (X : Cx) (sts : List Stmt) : TS := fun D σ H => TWSs X sts D σ H
structure TWO (X : Cx) (e : Option Expr) (σ : L2.St) (H : Hp) (Q : Option Int → Hp → Prop) : Prop where
  go : ∀ (pins : List (Addr × Obj)) (s : Shared), Inv X pins σ H s → wpAny (model X.prog X.w) X.A (evalPart e X.env) (fun u s' => ∃ o H', Inv X pins σ H' s' ∧ IsPart u o ∧ Q o H') X.xe s
def wO (X : Cx) (e : Option Expr) : TO := fun σ H Q => TWO X e σ H Q
section
variable {X : Cx}
theorem pe_w (e : Expr) : PE X e (wE X e) := ⟨fun pins s σ H Q I h => h.go pins s I⟩
theorem pt_w (e : Expr) : PT X e (wT X e) := ⟨fun pins s σ H Q I h => h.go pins s I⟩
theorem pa_w (es : List Expr) : PA X es (wA X es) := ⟨fun pos pins s σ H Q I h => h.go pos pins s I⟩
theorem pss_w (sts : List Stmt) : PSs X sts (wSs X sts) := ⟨fun pins s σ H D I h => h.go pins s I⟩
theorem po_w (e : Option Expr) : PO X e (wO X e) := ⟨fun pins s σ H Q I h => h.go pins s I⟩
theorem w_pe {e : Expr} {t : TE} (h : PE X e t) {σ : L2.St} {H : Hp} {Q : VK} (q : t σ H Q) : wE X e σ H Q := ⟨fun pins s I => h.run pins s σ H Q I q⟩
theorem w_pt {e : Expr} {t : TT} (h : PT X e t) {σ : L2.St} {H : Hp} {Q : Bool → Hp → Prop} (q : t σ H Q) : wT X e σ H Q := ⟨fun pins s I => h.run pins s σ H Q I q⟩
theorem w_pa {es : List Expr} {t : TA} (h : PA X es t) {σ : L2.St} {H : Hp} {Q : List V → Hp → Prop} (q : t σ H Q) : wA X es σ H Q := ⟨fun pos pins s I => h.run pos pins s σ H Q I q⟩
theorem w_ps {st : Stmt} {rest : List Stmt} {t : TS} (h : PS X st t) {D : Ends} {σ : L2.St} {H : Hp} (q : t { D with nx := wSs X rest D } σ H) : wSs X (st :: rest) D σ H :=
  ⟨fun pins s I => (pss_cons h (pss_w rest)).run pins s σ H D I q⟩
theorem w_po {e : Option Expr} {t : TO} (h : PO X e t) {σ : L2.St} {H : Hp} {Q : Option Int → Hp → Prop} (q : t σ H Q) : wO X e σ H Q := ⟨fun pins s I => h.run pins s σ H Q I q⟩
end
def Ev (C : C0) (te : TE) (G G' : List Ent) (e : Ent) : Prop := ∀ B H σ, Ok C G B H σ → ∀ Q : VK,
  (∀ v B' H', Ok C G' B' H' σ → Same B B' → EntOk C B' H' e (some v) → (e.mine = true → ∀ p, v = .ref p → Apart G' σ p) → Q v H') → te σ H Q
def EvT (C : C0) (tt : TT) (G G' : List Ent) (b : Bool) : Prop := ∀ B H σ, Ok C G B H σ → ∀ Q : Bool → Hp → Prop,
  (∀ B' H', Ok C G' B' H' σ → Same B B' → Q b H') → tt σ H Q
def EvO (C : C0) (to : TO) (G G' : List Ent) (o : Option Int) : Prop := ∀ B H σ, Ok C G B H σ → ∀ Q : Option Int → Hp → Prop,
  (∀ B' H', Ok C G' B' H' σ → Same B B' → Q o H') → to σ H Q
inductive Arg : Type 1 where
  | d {α : Type} (r : Rp α) (a : α)
  | s (i : Nat)
def ArgOk (B : Hp) (σ : L2.St) : Arg → V → Prop
  | .d r a, v => r.rel B v a
  | .s i, v => σ[i]? = some (some v)
theorem ArgOk.mono {B B' : Hp} {σ : L2.St} {a : Arg} {v : V} (e : Same B B') (h : ArgOk B σ a v) : ArgOk B' σ a v := by
  cases a with
  | d r a => exact r.mono e h
  | s i => exact h
inductive ArgsOk (B : Hp) (σ : L2.St) : List Arg → List V → Prop
  | nil : ArgsOk B σ [] []
  | cons {a : Arg} {v : V} {as : List Arg} {vs : List V} : ArgOk B σ a v → ArgsOk B σ as vs → ArgsOk B σ (a :: as) (v :: vs)
def EvA (C : C0) (ta : TA) (G G' : List Ent) (as : List Arg) : Prop := ∀ B H σ, Ok C G B H σ → ∀ Q : List V → Hp → Prop,
  (∀ vs B' H', Ok C G' B' H' σ → Same B B' → ArgsOk B' σ as vs → Q vs H') → ta σ H Q
abbrev XE (X : Cx) (C : C0) (e : Expr) (G G' : List Ent) (r : Ent) : Prop := Ev C (wE X e) G G' r
abbrev XT (X : Cx) (C : C0) (e : Expr) (G G' : List Ent) (b : Bool) : Prop := EvT C (wT X e) G G' b
abbrev XA (X : Cx) (C : C0) (es : List Expr) (G G' : List Ent) (as : List Arg) : Prop := EvA C (wA X es) G G' as
abbrev XO (X : Cx) (C : C0) (e : Option Expr) (G G' : List Ent) (o : Option Int) : Prop := EvO C (wO X e) G G' o
section
variable {C : C0} {G G1 G2 G3 G' : List Ent} {ta tb te : TE} {t u : TT} {e : Ent} {α β γ : Type} {r : Rp α} {r2 : Rp β}
theorem Ev.go {a : α} (h : Ev C ta G G1 (.dat r a)) {B H σ} (O : Ok C G B H σ) {Q : VK} (k : ∀ v B' H', Ok C G1 B' H' σ → Same B B' → r.rel B' v a → Q v H') : ta σ H Q :=
  h B H σ O Q fun v B' H' O' s hv _ => by
    obtain ⟨w, hw, hv⟩ := hv
    cases hw
    exact k v B' H' O' s hv
theorem Ev.mk {a : α} (h : ∀ B H σ, Ok C G B H σ → ∀ Q : VK, (∀ v B' H', Ok C G1 B' H' σ → Same B B' → r.rel B' v a → Q v H') → ta σ H Q) : Ev C ta G G1 (.dat r a) :=
  fun B H σ O Q q => h B H σ O Q fun v B' H' O' s hv => q v B' H' O' s ⟨v, rfl, hv⟩ fun z => by cases z
theorem Ev.is {a b : α} (h : Ev C ta G G1 (.dat r a)) (e : a = b) : Ev C ta G G1 (.dat r b) := e ▸ h
theorem EvT.is {a b : Bool} (h : EvT C t G G1 a) (e : a = b) : EvT C t G G1 b := e ▸ h
theorem Ev.known {l : List α} (h : Ev C ta G G1 (.own false r l)) : Ev C ta G G1 (.dat (rL r) l) := by
  refine Ev.mk fun B H σ O Q q => h B H σ O Q fun v B' H' O' s hv ha => ?_
  obtain ⟨p, vs, e1, e2, ⟨e3, e4, e5⟩, e6⟩ := hv
  cases e1
  obtain ⟨O2, s2⟩ := O'.known e2 e3 (.inl e5) (ha rfl p rfl)
  exact q _ _ _ O2 (s.trans s2) ⟨p, vs, rfl, upd_same, paired_mono s2 e6⟩
theorem ev_var {i : Nat} {a : α} (h : G[i]? = some (.dat r a)) : Ev C (tVar i) G G (.dat r a) := Ev.mk fun B H σ O Q q => by
  obtain ⟨ov, hs, v, rfl, hv⟩ := O.slot h
  exact ⟨v, hs, q v B H O (Same.refl _) hv⟩
theorem ev_c {a : α} {v : V} (h : ∀ B, r.rel B v a) : Ev C (tC v) G G (.dat r a) := Ev.mk fun B H σ O Q q => q v B H O (Same.refl _) (h B)
theorem ev_I0 {g : Int → Int → V} {a b : Int} {c : α} (ha : Ev C ta G G1 (.dat rI a)) (hb : Ev C tb G1 G2 (.dat rI b)) (hg : ∀ B, r.rel B (g a b) c) : Ev C (tOp (rI0 g) ta tb) G G2 (.dat r c) :=
  Ev.mk fun B H σ O Q q => ha.go O fun x B1 H1 O1 s1 hx => hb.go O1 fun y B2 H2 O2 s2 hy => ⟨a, b, hx, hy, q _ _ _ O2 (s1.trans s2) (hg B2)⟩
theorem ev_I {cc : Int → Int → Prop} {g : Int → Int → V} {a b : Int} {c : α} (ha : Ev C ta G G1 (.dat rI a)) (hb : Ev C tb G1 G2 (.dat rI b)) (hc : cc a b) (hg : ∀ B, r.rel B (g a b) c) : Ev C (tOp (L2.rI cc g) ta tb) G G2 (.dat r c) :=
  Ev.mk fun B H σ O Q q => ha.go O fun x B1 H1 O1 s1 hx => hb.go O1 fun y B2 H2 O2 s2 hy => ⟨a, b, hx, hy, hc, q _ _ _ O2 (s1.trans s2) (hg B2)⟩
theorem ev_op {rr : R2} {a : α} {b : β} {s3 : Rp γ} {c : γ} (ha : Ev C ta G G1 (.dat r a)) (hb : Ev C tb G1 G2 (.dat r2 b))
    (hr : ∀ B H σ x y, Ok C G2 B H σ → r.rel B x a → r2.rel B y b → ∀ Q : VK, (∀ v B' H', Ok C G2 B' H' σ → Same B B' → s3.rel B' v c → Q v H') → rr x y H Q) : Ev C (tOp rr ta tb) G G2 (.dat s3 c) :=
  Ev.mk fun B H σ O Q q => ha.go O fun x B1 H1 O1 s1 hx => hb.go O1 fun y B2 H2 O2 s2 hy => hr B2 H2 σ x y O2 (r.mono s2 hx) hy Q fun v B3 H3 O3 s3 hv => q v B3 H3 O3 ((s1.trans s2).trans s3) hv
theorem ev_un {rr : V → Hp → VK → Prop} {a : α} {c : β} (ha : Ev C ta G G1 (.dat r a))
    (hr : ∀ B H σ x, Ok C G1 B H σ → r.rel B x a → ∀ Q : VK, (∀ v B' H', Ok C G1 B' H' σ → Same B B' → r2.rel B' v c → Q v H') → rr x H Q) : Ev C (tUn rr ta) G G1 (.dat r2 c) :=
  Ev.mk fun B H σ O Q q => ha.go O fun x B1 H1 O1 s1 hx => hr B1 H1 σ x O1 hx Q fun v B2 H2 O2 s2 hv => q v B2 H2 O2 (s1.trans s2) hv
theorem et_test {b : Bool} (h : Ev C te G G1 (.dat rB b)) : EvT C (tTest te) G G1 b := fun B H σ O Q q => h.go O fun v B1 H1 O1 s1 hv => ⟨b, hv, q _ _ O1 s1⟩
theorem et_B {b : Bool} (h : Ev C te G G1 (.dat rB b)) : EvT C (tB te) G G1 b := fun B H σ O Q q => h.go O fun v B1 H1 O1 s1 hv => ⟨b, hv, q _ _ O1 s1⟩
theorem et_not {b : Bool} (h : EvT C t G G1 b) : EvT C (tNot t) G G1 (!b) := fun B H σ O Q q => h B H σ O _ fun B1 H1 O1 s1 => q _ _ O1 s1
theorem et_and {a b : Bool} (h : EvT C t G G1 a) (h2 : a = true → EvT C u G1 G1 b) : EvT C (tAnd t u) G G1 (a && b) := fun B H σ O Q q => h B H σ O _ fun B1 H1 O1 s1 => by
  cases a with
  | false => exact iteF (q _ _ O1 s1)
  | true => exact iteT (h2 rfl B1 H1 σ O1 _ fun B2 H2 O2 s2 => q _ _ O2 (s1.trans s2))
theorem et_or {a b : Bool} (h : EvT C t G G1 a) (h2 : a = false → EvT C u G1 G1 b) : EvT C (tOr t u) G G1 (a || b) := fun B H σ O Q q => h B H σ O _ fun B1 H1 O1 s1 => by
  cases a with
  | true => exact iteT (q _ _ O1 s1)
  | false => exact iteF (h2 rfl B1 H1 σ O1 _ fun B2 H2 O2 s2 => q _ _ O2 (s1.trans s2))
theorem ev_notV {b : Bool} (h : Ev C te G G1 (.dat rB b)) : Ev C (tNotV te) G G1 (.dat rB (!b)) := Ev.mk fun B H σ O Q q => h.go O fun v B1 H1 O1 s1 hv => ⟨b, hv, q _ _ _ O1 s1 rfl⟩
theorem ev_andV {a b : Bool} (h : Ev C ta G G1 (.dat rB a)) (h2 : a = true → Ev C tb G1 G1 (.dat rB b)) : Ev C (tAndV ta tb) G G1 (.dat rB (a && b)) := Ev.mk fun B H σ O Q q => h.go O fun v B1 H1 O1 s1 hv => ⟨a, hv, by
  cases a with
  | false => exact iteF (q _ _ _ O1 s1 rfl)
  | true => exact iteT ((h2 rfl).go O1 fun y B2 H2 O2 s2 hy => q _ _ _ O2 (s1.trans s2) hy)⟩
theorem ev_if {b : Bool} {x y : α} (h : EvT C t G G1 b) (h1 : b = true → Ev C ta G1 G2 (.dat r x)) (h2 : b = false → Ev C tb G1 G2 (.dat r y)) : Ev C (tIf t ta tb) G G2 (.dat r (if b = true then x else y)) :=
  Ev.mk fun B H σ O Q q => h B H σ O _ fun B1 H1 O1 s1 => by
    cases b with
    | true => exact iteT ((h1 rfl).go O1 fun v B2 H2 O2 s2 hv => q v _ _ O2 (s1.trans s2) (by rw [if_pos rfl]; exact hv))
    | false => exact iteF ((h2 rfl).go O1 fun v B2 H2 O2 s2 hv => q v _ _ O2 (s1.trans s2) (by rw [if_neg Bool.false_ne_true]; exact hv))
theorem ev_chain {g g' : Int → Int → V} {p p' : Int → Int → Bool} {a b c : Int} {tc : TE} (ha : Ev C ta G G (.dat rI a)) (hb : Ev C tb G G (.dat rI b)) (hc : Ev C tc G G (.dat rI c))
    (e : g a b = .bl (p a b)) (e' : g' b c = .bl (p' b c)) : Ev C (tChain (rI0 g) (rI0 g') ta tb tc) G G (.dat rB (p a b && p' b c)) :=
  Ev.mk fun B H σ O Q q => ha.go O fun x B1 H1 O1 s1 hx => hb.go O1 fun y B2 H2 O2 s2 hy => ⟨a, b, hx, hy, p a b, e, by
    cases hp : p a b with
    | false => exact iteF (q _ _ _ O2 (s1.trans s2) (by show V.bl _ = V.bl _; rw [hp]; rfl))
    | true => exact iteT (hc.go O2 fun z B3 H3 O3 s3 hz => ⟨b, c, hy, hz, by rw [e']; exact q _ _ _ O3 ((s1.trans s2).trans s3) (by show V.bl _ = V.bl _; rw [hp]; rfl)⟩)⟩
theorem ea_nil : EvA C tNil G G [] := fun B H σ O Q q => q [] B H O (Same.refl _) .nil
theorem ea_cons {tr : TA} {a : α} {as : List Arg} (h : Ev C te G G1 (.dat r a)) (hr : EvA C tr G1 G2 as) : EvA C (tCons te tr) G G2 (.d r a :: as) := fun B H σ O Q q =>
  h.go O fun v B1 H1 O1 s1 hv => hr B1 H1 σ O1 _ fun vs B2 H2 O2 s2 hvs => q _ _ _ O2 (s1.trans s2) (.cons (r.mono s2 hv) hvs)
theorem ea_slot {tr : TA} {i : Nat} {as : List Arg} {f : Ent} (h : G[i]? = some f) (hf : f.mine = true) (hr : EvA C tr G G2 as) : EvA C (tCons (tVar i) tr) G G2 (.s i :: as) := fun B H σ O Q q => by
  obtain ⟨ov, hs, hv⟩ := O.slot h
  obtain ⟨p, o, rfl, _⟩ := hv.mine_at hf
  exact ⟨.ref p, hs, hr B H σ O _ fun vs B2 H2 O2 s2 hvs => q _ _ _ O2 s2 (.cons hs hvs)⟩
inductive AllD {α : Type} (r : Rp α) : List Arg → List α → Prop
  | nil : AllD r [] []
  | cons {x : α} {as : List Arg} {xs : List α} : AllD r as xs → AllD r (.d r x :: as) (x :: xs)
theorem AllD.paired {B : Hp} {σ : L2.St} : ∀ {as : List Arg} {vs : List V} {xs : List α}, AllD r as xs → ArgsOk B σ as vs → Paired (r.rel B) vs xs
  | _, _, _, .nil, .nil => .nil
  | _, _, _, .cons h, .cons h1 h2 => .cons h1 (AllD.paired h h2)
theorem ArgsOk.len {B : Hp} {σ : L2.St} : ∀ {as : List Arg} {vs : List V}, ArgsOk B σ as vs → as.length = vs.length
  | _, _, .nil => rfl
  | _, _, .cons _ h => by rw [List.length_cons, List.length_cons, ArgsOk.len h]
theorem ev_tupP {tr : TA} {x : α} {y : β} (h : EvA C tr G G1 [.d r x, .d r2 y]) : Ev C (tTup tr) G G1 (.dat (rP r r2) (x, y)) := Ev.mk fun B H σ O Q q =>
  h B H σ O _ fun vs B1 H1 O1 s1 hvs => ⟨by rw [← hvs.len]; exact Nat.le_of_ble_eq_true rfl, fun p np => by
    obtain ⟨O2, s2⟩ := O1.learn (o := .tup vs) np (by show vs.length ≤ sizeLine; rw [← hvs.len]; exact Nat.le_of_ble_eq_true rfl)
    cases hvs with
    | cons h1 hvs => cases hvs with
      | cons h2 hvs => cases hvs with
        | nil => exact q _ _ _ O2 (s1.trans s2) ⟨p, _, _, rfl, upd_same, r.mono s2 h1, r2.mono s2 h2⟩⟩
theorem ev_tupP3 {tr : TA} {x : α} {y : β} {z : γ} {r3 : Rp γ} (h : EvA C tr G G1 [.d r x, .d r2 y, .d r3 z]) : Ev C (tTup tr) G G1 (.dat (rP3 r r2 r3) (x, y, z)) := Ev.mk fun B H σ O Q q =>
  h B H σ O _ fun vs B1 H1 O1 s1 hvs => ⟨by rw [← hvs.len]; exact Nat.le_of_ble_eq_true rfl, fun p np => by
    obtain ⟨O2, s2⟩ := O1.learn (o := .tup vs) np (by show vs.length ≤ sizeLine; rw [← hvs.len]; exact Nat.le_of_ble_eq_true rfl)
    cases hvs with
    | cons h1 hvs => cases hvs with
      | cons h2 hvs => cases hvs with
        | cons h3 hvs => cases hvs with
          | nil => exact q _ _ _ O2 (s1.trans s2) ⟨p, _, _, _, rfl, upd_same, r.mono s2 h1, r2.mono s2 h2, r3.mono s2 h3⟩⟩
theorem ev_lst {tr : TA} {as : List Arg} {xs : List α} (h : EvA C tr G G1 as) (hx : AllD r as xs) (hl : Nat.ble as.length sizeLine = true := by rfl) : Ev C (tLst tr) G G1 (.own false r xs) := fun B H σ O Q q =>
  h B H σ O _ fun vs B1 H1 O1 s1 hvs => ⟨by rw [← hvs.len]; exact Nat.le_of_ble_eq_true hl, fun p np => by
    obtain ⟨O2, h1, h3, _⟩ := O1.made (o := .lst vs) np (by show vs.length ≤ sizeLine; rw [← hvs.len]; exact Nat.le_of_ble_eq_true hl)
    exact q _ _ _ O2 s1 ⟨p, vs, rfl, upd_same, h1, hx.paired hvs⟩ fun _ p' e => by cases e; exact h3⟩
end
end TL

namespace TL
open PySem PySem.Spec PyProof.Rows L2
inductive Le : List Ent → List Ent → Prop
  | nil : Le [] []
  | keep {e : Ent} {G G' : List Ent} : Le G G' → Le (e :: G) (e :: G')
  | drop {e : Ent} {G G' : List Ent} : Le G G' → Le (e :: G) (.any :: G')
theorem Le.refl : ∀ G : List Ent, Le G G
  | [] => .nil
  | _ :: G => .keep (Le.refl G)
theorem Le.length : ∀ {G G' : List Ent}, Le G G' → G.length = G'.length
  | _, _, .nil => rfl
  | _, _, .keep h => by rw [List.length_cons, List.length_cons, h.length]
  | _, _, .drop h => by rw [List.length_cons, List.length_cons, h.length]
theorem Le.get : ∀ {G G' : List Ent}, Le G G' → ∀ {i : Nat} {e : Ent}, G'[i]? = some e → e = .any ∨ G[i]? = some e
  | _, _, .nil, _, _, h => by cases h
  | _, _, .keep h, 0, _, e => .inr e
  | _, _, .keep h, i + 1, _, e => h.get (i := i) e
  | _, _, .drop h, 0, _, e => .inl (Option.some.inj e).symm
  | _, _, .drop h, i + 1, _, e => h.get (i := i) e
theorem Ok.le {C : C0} {G G' : List Ent} {B H : Hp} {σ : L2.St} (O : Ok C G B H σ) (l : Le G G') : Ok C G' B H σ where
  g := O.g
  h1 := O.h1
  len := O.len.trans l.length
  ent := fun i e ov hi hs => by
    rcases l.get hi with rfl | h
    · trivial
    · exact O.ent i e ov h hs
  sep := fun i j e e' p n hi hj m m' s s' => by
    rcases l.get hi with rfl | h
    · cases m
    · rcases l.get hj with rfl | h'
      · cases m'
      · exact O.sep i j e e' p n h h' m m' s s'
abbrev C0.hold (C : C0) (B : Hp) : C0 := { C with B1 := B }
abbrev C0.bare (C : C0) : C0 := C.hold fun _ => none
theorem EntOk.hold {C : C0} {B H : Hp} {e : Ent} {ov : Option V} (B1 : Hp) (h : EntOk C B H e ov) : EntOk (C.hold B1) B H e ov := by cases e <;> exact h
theorem EntOk.unhold {C : C0} {B H B1 : Hp} {e : Ent} {ov : Option V} (h : EntOk (C.hold B1) B H e ov) : EntOk C B H e ov := by cases e <;> exact h
theorem Ok.hold {C : C0} {G : List Ent} {B H B1 : Hp} {σ : L2.St} (O : Ok C G B H σ) (s : Same B1 B) : Ok (C.hold B1) G B H σ := ⟨O.g, s, O.len, fun i e ov hi hs => (O.ent i e ov hi hs).hold B1, O.sep⟩
theorem Ok.unhold {C : C0} {G : List Ent} {B H B1 : Hp} {σ : L2.St} (O : Ok (C.hold B1) G B H σ) (s : Same C.B1 B) : Ok C G B H σ := ⟨O.g, s, O.len, fun i e ov hi hs => (O.ent i e ov hi hs).unhold, O.sep⟩
theorem Ok.bare {C : C0} {G : List Ent} {B H : Hp} {σ : L2.St} (O : Ok C G B H σ) : Ok C.bare G B H σ := O.hold fun _ _ h => by cases h
def Reach (C : C0) (G : List Ent) : L2.St → Hp → Prop := fun σ H => ∃ B, Ok C G B H σ
abbrev GS (X : Cx) (C : C0) (G : List Ent) (sts : List Stmt) (D : Ends) : Prop := ∀ B H σ, Ok C G B H σ → wSs X sts D σ H
def RetOk (C : C0) (D : Ends) (G : List Ent) (r : Ent) : Prop := ∀ v B H σ, Ok C.bare G B H σ → EntOk C.bare B H r (some v) → (r.mine = true → ∀ p, v = .ref p → Apart G σ p) → D.rt v H
section
variable {X : Cx} {C : C0} {G G' G0 G1 G2 Gj : List Ent} {e : Ent} {α β γ : Type} {r : Rp α} {rest body body2 : List Stmt} {D : Ends} {x : Str} {ex c : Expr} {pos pos' : Pos} {i : Nat} {b : Bool}
theorem gs_mono {D' : Ends} {sts : List Stmt} (k : GS X C G sts D) (h1 : ∀ σ H, D.nx σ H → D'.nx σ H) (h2 : ∀ σ H, D.bk σ H → D'.bk σ H) (h3 : ∀ σ H, D.ct σ H → D'.ct σ H) (h4 : ∀ v H, D.rt v H → D'.rt v H) : GS X C G sts D' :=
  fun B H σ O => ⟨fun pins s I => thn ((k B H σ O).go pins s I) fun f s' hq => by
    cases f with
    | next =>
      obtain ⟨σ', H', I', q⟩ := hq
      exact ⟨σ', H', I', h1 _ _ q⟩
    | brk =>
      obtain ⟨σ', H', I', q⟩ := hq
      exact ⟨σ', H', I', h2 _ _ q⟩
    | cont =>
      obtain ⟨σ', H', I', q⟩ := hq
      exact ⟨σ', H', I', h3 _ _ q⟩
    | ret u =>
      obtain ⟨v, σ', H', I', rv, q⟩ := hq
      exact ⟨v, σ', H', I', rv, h4 _ _ q⟩⟩
theorem gs_nil (k : GS X C G rest D) : GS X C G [] { D with nx := wSs X rest D } := fun B H σ O => ⟨fun pins s I => pss_nil.run pins s σ H _ I (k B H σ O)⟩
theorem gs_fin (k : ∀ B H σ, Ok C G B H σ → D.nx σ H) : GS X C G [] D := fun B H σ O => ⟨fun pins s I => pss_nil.run pins s σ H _ I (k B H σ O)⟩
theorem gs_set (hN : X.N.Nodup) (hi : X.N[i]? = some x) (hx : Loc X.env.scope x) (he : XE X C ex G G1 e) (k : GS X C (G1.set i e) rest D)
    (hs : swapsWith ex (some (.Name x pos')) pos.line X.env = pure false := by rfl) (hf : X.fn x = true ∨ X.env.scope.names.lookup x = some .local := by first | exact .inl rfl | exact .inr rfl) :
    GS X C G (.Assign [.Name x pos'] ex pos :: rest) D := fun B H σ O => w_ps (ps_set hN hi hx (pe_w ex) hs hf) (he B H σ O _ fun v B' H' O' s hv ha => k B' H' _ (O'.store hv (fun m p e => ha m p e)))
theorem gs_ret (he : XE X C ex G G1 e) (hr : RetOk C D G1 e) : GS X C G (.Return (some ex) pos :: rest) D :=
  fun B H σ O => w_ps (ps_ret (pe_w ex)) (he B H σ O _ fun v B' H' O' s hv ha => hr v B' H' σ O'.bare (hv.hold _) ha)
theorem gs_if (hc : XT X C c G G1 b) (h1 : b = true → GS X C G1 body { D with nx := wSs X rest D }) (h2 : b = false → GS X C G1 body2 { D with nx := wSs X rest D }) : GS X C G (.If c body body2 pos :: rest) D :=
  fun B H σ O => w_ps (ps_if (pt_w c) (pss_w body) (pss_w body2)) (hc B H σ O _ fun B' H' O' s => by
    cases b with
    | true => exact iteT (h1 rfl B' H' σ O')
    | false => exact iteF (h2 rfl B' H' σ O'))
theorem gs_ifJ (Gj : List Ent) (hc : XT X C c G G1 b) (h1 : b = true → GS X C G1 body { D with nx := Reach C Gj }) (h2 : b = false → GS X C G1 body2 { D with nx := Reach C Gj }) (k : GS X C Gj rest D) : GS X C G (.If c body body2 pos :: rest) D :=
  fun B H σ O => ⟨fun pins s I => by
    refine (pss_cons (t := tIfS (wT X c) (wSs X body) (wSs X body2)) (ps_if (pt_w c) (pss_w body) (pss_w body2)) (pss_w rest)).run pins s σ H D I ?_
    refine hc B H σ O _ fun B' H' O' s => ?_
    have mono : ∀ (sts : List Stmt), GS X C G1 sts { D with nx := Reach C Gj } → GS X C G1 sts { D with nx := wSs X rest D } := fun sts h =>
      gs_mono h (fun σ H ⟨B2, O2⟩ => k B2 H σ O2) (fun _ _ q => q) (fun _ _ q => q) fun _ _ q => q
    cases b with
    | true => exact iteT (mono _ (h1 rfl) B' H' σ O')
    | false => exact iteF (mono _ (h2 rfl) B' H' σ O')⟩
theorem gs_expr (he : XE X C ex G G1 e) (k : GS X C G1 rest D) (hs : swapsWith ex none pos.line X.env = pure false := by rfl) : GS X C G (.Expr ex pos :: rest) D :=
  fun B H σ O => w_ps (ps_expr (pe_w ex) hs) (he B H σ O _ fun v B' H' O' s hv ha => k B' H' σ O')
end
theorem Ok.storeD {α : Type} {r : Rp α} {a : α} {C : C0} {G : List Ent} {B H : Hp} {σ : L2.St} (O : Ok C G B H σ) {i : Nat} {v : V} (h : r.rel B v a) : Ok C (G.set i (.dat r a)) B H (σ.set i (some v)) :=
  O.store (e := .dat r a) ⟨v, rfl, h⟩ fun z => by cases z
def ItOk {α : Type} (C : C0) (J : It) (r : Rp α) (as : List α) (Bs : Hp) : Prop := ∀ (i : Nat) (G : List Ent) (B H : Hp) (σ : L2.St), Ok C G B H σ → Same Bs B →
  (as.length ≤ i → J.stop i H) ∧ (∀ a, as[i]? = some a → J.go i H ∧ ∀ x H', J.yld i H x H' → ∃ B', Ok C G B' H' σ ∧ Same B B' ∧ r.rel B' x a)
def C0.Kp (C C1 : C0) : Prop := ∀ b o u, C.H0 b = some (.frz o u) → C1.H0 b = some (.frz o u)
structure C0.Up (C C1 : C0) : Prop where
  ok : ∀ {G B H σ}, Ok C1 G B H σ → Ok C G B H σ
  okb : ∀ {G B H σ}, Ok C1.bare G B H σ → Ok C.bare G B H σ
  en : ∀ {G B H σ e v}, Ok C1.bare G B H σ → EntOk C1 B H e v → EntOk C B H e v
theorem C0.Up.refl (C : C0) : C.Up C := ⟨fun h => h, fun h => h, fun _ h => h⟩
theorem C0.Up.trans {C C1 C2 : C0} (h : C.Up C1) (k : C1.Up C2) : C.Up C2 := ⟨fun o => h.ok (k.ok o), fun o => h.okb (k.okb o), fun o e => h.en (k.okb o) (k.en o e)⟩
def Src {α : Type} (C : C0) (wi : TI) (G G' : List Ent) (r : Rp α) (as : List α) : Prop := ∀ B H σ, Ok C G B H σ → ∀ R : It → Hp → Prop,
  (∀ J B' H', Ok C G' B' H' σ → Same B B' → as.length ≤ sizeLine → (∀ C1 : C0, ItOk C1 J r as B') → R J H') → wi σ H R
def SrcD {α : Type} (C : C0) (wi : TI) (G G' : List Ent) (r : Rp α) (as : List α) : Prop := ∀ B H σ, Ok C G B H σ → ∀ R : It → Hp → Prop,
  (∀ J B' H' C', Ok C' G' B' H' σ → C.Up C' → Same B B' → as.length ≤ sizeLine → (∀ C1 : C0, C'.Kp C1 → ItOk C1 J r as B') → R J H') → wi σ H R
theorem Src.d {α : Type} {C : C0} {wi : TI} {G G' : List Ent} {r : Rp α} {as : List α} (h : Src C wi G G' r as) : SrcD C wi G G' r as := fun B H σ O R q => h B H σ O R fun J B' H' O' s hz hJ => q J B' H' C O' (C0.Up.refl C) s hz fun C1 _ => hJ C1
def Tg {α : Type} (C : C0) (g : TG) (r : Rp α) (a : α) (G G' : List Ent) : Prop := ∀ B H σ v, Ok C G B H σ → r.rel B v a → ∀ Q : L2.St → Hp → Prop, (∀ σ' B' H', Ok C G' B' H' σ' → Same B B' → Q σ' H') → g v σ H Q
theorem RetOk.up {C C1 : C0} {D : Ends} {G : List Ent} {r : Ent} (h : RetOk C D G r) (u : C.Up C1) : RetOk C1 D G r := fun v B H σ O e ap => h v B H σ (u.okb O) ((u.en O e.unhold).hold _) ap
section
variable {X : Cx} {C : C0} {G G' G0 G1 G2 : List Ent} {α β γ : Type} {r : Rp α} {r2 : Rp β} {as : List α} {tl te : TE} {K : PySem.W.Frag}
theorem tg_name {a : α} {j : Nat} : Tg C (gName j) r a G (G.set j (.dat r a)) := fun B H σ v O hv Q q => q _ B H (O.storeD hv) (Same.refl _)
theorem paired_get {B : Hp} : ∀ {vs : List V} {l : List α} {i : Nat} {a : α}, Paired (r.rel B) vs l → l[i]? = some a → ∃ v, vs[i]? = some v ∧ r.rel B v a
  | _, _, _, _, .nil, h => by cases h
  | _, _, 0, _, .cons h t, e => by cases e; exact ⟨_, rfl, h⟩
  | _, _, i + 1, _, .cons h t, e => paired_get (i := i) t e
theorem lst_line {B H : Hp} {σ : L2.St} (O : Ok C G B H σ) {p : Addr} {vs : List V} {l : List α} (h : B p = some (.lst vs)) (hp : Paired (r.rel B) vs l) : l.length ≤ sizeLine := by
  rw [← hp.length]; exact O.g.sm p _ (O.g.kn.x h rfl)
theorem src_list (h : Ev C tl G G1 (.dat (rL r) as)) : Src C (iList K tl) G G1 r as := fun B H σ O R q => h.go O fun v B1 H1 O1 s1 hv => by
  obtain ⟨p, vs, rfl, h2, h3⟩ := hv
  refine ⟨p, rfl, ⟨vs, SqL.of (O1.g.kn.x h2 rfl)⟩, q _ B1 H1 O1 s1 (lst_line O1 h2 h3) fun B2 i G B H σ O s => ⟨fun hi => ?_, fun a ha => ?_⟩⟩
  · exact ⟨vs, SqL.of (O.g.kn.x (s _ _ h2) rfl), by rw [h3.length]; exact hi⟩
  · obtain ⟨v, hv, hr⟩ := paired_get h3 ha
    have hl : SqL K H p vs := SqL.of (O.g.kn.x (s _ _ h2) rfl)
    exact ⟨⟨vs, v, hl, hv⟩, fun x H' ⟨e1, e2⟩ => by
      subst e1
      have := Option.some.inj ((e2 vs hl).symm.trans hv)
      subst this
      exact ⟨B, O, Same.refl _, r.mono s hr⟩⟩
def rng2 (a b : Int) : List Int := (List.range (b - a).toNat).map fun (i : Nat) => a + (i : Int)
def rng (b : Int) : List Int := (List.range b.toNat).map fun (i : Nat) => (i : Int)
theorem rng_get {lo : Int} {n i : Nat} {a : Int} (h : ((List.range n).map fun (i : Nat) => lo + (i : Int))[i]? = some a) : i < n ∧ a = lo + i := by
  rw [List.getElem?_map] at h
  rcases Nat.lt_or_ge i n with q | q
  · rw [List.getElem?_range q] at h; exact ⟨q, (Option.some.inj h).symm⟩
  · rw [List.getElem?_eq_none (by rw [List.length_range]; exact q)] at h; cases h
theorem it_rng {lo : Int} {n : Nat} {Bs : Hp} : ItOk C (Itr lo n) TL.rI ((List.range n).map fun (i : Nat) => lo + (i : Int)) Bs := fun i G B H σ O s => ⟨fun hi => by
    rw [List.length_map, List.length_range] at hi; exact hi, fun a ha => by
    obtain ⟨h1, h2⟩ := rng_get ha
    exact ⟨h1, fun x H' ⟨e1, e2⟩ => by subst e1; exact ⟨B, O, Same.refl _, by subst h2; exact e2⟩⟩⟩
theorem src_rng1 {ta : TA} {n : Int} (h : EvA C ta G G1 [.d TL.rI n]) (h2 : n ≤ 16777216) (h1 : -(2 ^ 62) ≤ n := by omega) : Src C (iRng1 ta) G G1 TL.rI (rng n) := fun B H σ O R q => h B H σ O _ fun vs B1 H1 O1 s1 hv => by
  cases hv with
  | cons hv h3 => cases h3 with
    | nil =>
      refine ⟨n, by rw [show _ = V.int n from hv], h1, by omega, q _ B1 H1 O1 s1 (by rw [rng, List.length_map, List.length_range]; show n.toNat ≤ 16777216; omega) fun B2 => ?_⟩
      have : rng n = (List.range n.toNat).map fun (i : Nat) => (0 : Int) + (i : Int) := by
        unfold rng; simp only [Int.zero_add]
      rw [this]
      exact it_rng
theorem src_rng2 {ta : TA} {a n : Int} (h : EvA C ta G G1 [.d TL.rI a, .d TL.rI n]) (h1 : 0 ≤ a ∧ a ≤ 16777216 ∧ -(2 ^ 62) ≤ n ∧ n ≤ 16777216) : Src C (iRng2 ta) G G1 TL.rI (rng2 a n) := fun B H σ O R q => h B H σ O _ fun vs B1 H1 O1 s1 hv => by
  cases hv with
  | cons hv h3 => cases h3 with
    | cons hv2 h3 => cases h3 with
      | nil => exact ⟨a, n, by rw [show _ = V.int a from hv, show _ = V.int n from hv2], by omega, q _ B1 H1 O1 s1 (by rw [rng2, List.length_map, List.length_range]; show (n - a).toNat ≤ 16777216; omega) fun B2 => it_rng⟩
theorem src_zip {ta : TA} {bs : List β} (h : EvA C ta G G1 [.d (rL r) as, .d (rL r2) bs]) : Src C (iZip K ta) G G1 (rP r r2) (as.zip bs) := fun B H σ O R q => h B H σ O _ fun vs B1 H1 O1 s1 hv => by
  cases hv with
  | cons hv h3 => cases h3 with
    | cons hw h3 => cases h3 with
      | nil =>
        obtain ⟨p, vs, rfl, h2, h3⟩ := hv
        obtain ⟨p', ws, rfl, k2, k3⟩ := hw
        refine ⟨p, p', vs, ws, rfl, SqL.of (O1.g.kn.x h2 rfl), SqL.of (O1.g.kn.x k2 rfl), q _ B1 H1 O1 s1 (by rw [List.length_zip]; exact Nat.le_trans (Nat.min_le_left _ _) (lst_line O1 h2 h3)) fun B2 i G B H σ O s => ⟨fun hi => ?_, fun a ha => ?_⟩⟩
        · refine ⟨vs, ws, SqL.of (O.g.kn.x (s _ _ h2) rfl), SqL.of (O.g.kn.x (s _ _ k2) rfl), ?_⟩
          rw [h3.length, k3.length]; rw [List.length_zip] at hi; omega
        · obtain ⟨a1, a2⟩ := a
          obtain ⟨ha1, ha2⟩ := List.getElem?_zip_eq_some.mp ha
          obtain ⟨v, hv, hr⟩ := paired_get h3 ha1
          obtain ⟨w, hw, hr2⟩ := paired_get k3 ha2
          have hl : SqL K H p vs := SqL.of (O.g.kn.x (s _ _ h2) rfl)
          have kl : SqL K H p' ws := SqL.of (O.g.kn.x (s _ _ k2) rfl)
          refine ⟨⟨vs, ws, v, w, hl, kl, hv, hw⟩, fun x H' ⟨T, y, z, e1, e2, e3, e4, e5⟩ => ?_⟩
          have t1 := Option.some.inj ((e4 vs hl).symm.trans hv)
          have t2 := Option.some.inj ((e5 ws kl).symm.trans hw)
          subst t1 t2 e1 e3
          obtain ⟨O2, s2⟩ := O.learn (o := .tup [y, z]) e2 (Nat.le_of_ble_eq_true rfl)
          exact ⟨_, O2, s2, T, _, _, rfl, upd_same, r.mono (s.trans s2) hr, r2.mono (s.trans s2) hr2⟩
end
section
variable {X : Cx} {C : C0} {G G' G0 G1 G2 : List Ent} {α β γ S : Type} {r : Rp α} {as : List α} {rest body : List Stmt} {D : Ends} {it tg : Expr} {wi : TI} {g : TG} {pos : Pos}
def AtW (C : C0) (W : Nat → List Ent → Prop) (i : Nat) : L2.St → Hp → Prop := fun σ H => ∃ G, W i G ∧ Reach C G σ H
theorem gs_forW (hp : PassesOwn (model X.prog X.w) X.A X.env X.xe) (hc : X.calm = true) (hi : PI X tg it wi) (hg : PG X tg g) (W : Nat → List Ent → Prop) (src : Src C wi G G0 r as) (h0 : W 0 G0)
    (hs : ∀ (B1 : Hp) (i : Nat) (a : α) (Gi : List Ent), as[i]? = some a → W i Gi → ∃ Gt, Tg (C.hold B1) g r a Gi Gt ∧ GS X (C.hold B1) Gt body { D with nx := AtW (C.hold B1) W (i + 1), ct := AtW (C.hold B1) W (i + 1), bk := wSs X rest D })
    (k : ∀ Gn, W as.length Gn → GS X C Gn rest D) (hfs : ∀ x, foldedSetIterable it X.env x = pure x := by intro _; rfl) : GS X C G (.For tg it body [] pos :: rest) D := fun B H σ O => by
  refine w_ps (ps_for hp hc hi hg (pss_w body) hfs) ?_
  refine src B H σ O _ fun J B1 H1 O1 s1 hsz hJ => ?_
  refine ⟨fun i m σ' H' => i + m = as.length ∧ AtW (C.hold B1) W i σ' H', ⟨as.length, Nat.zero_add _, G0, h0, B1, O1.hold (Same.refl _)⟩, fun i m σ' H' hW => ?_⟩
  obtain ⟨em, Gi, hGi, B2, O2⟩ := hW
  obtain ⟨j1, j2⟩ := hJ (C.hold B1) i Gi B2 H' σ' O2 O2.h1
  cases e : as[i]? with
  | none =>
    have hi : as.length ≤ i := List.getElem?_eq_none_iff.mp e
    have ei : i = as.length := by omega
    exact .inl ⟨j1 hi, k Gi (ei ▸ hGi) B2 H' σ' (O2.unhold (O1.h1.trans O2.h1))⟩
  | some a =>
    obtain ⟨q1, q2⟩ := j2 a e
    have hi : i < as.length := lt_get e
    refine .inr ⟨q1, AtW (C.hold B1) W (i + 1), fun σ2 H2 h2 => ⟨m - 1, by omega, by omega, h2⟩, fun x H2 hy => ?_⟩
    obtain ⟨B3, O3, s3, hx⟩ := q2 x H2 hy
    obtain ⟨Gt, t1, t2⟩ := hs B1 i a Gi e hGi
    exact t1 B3 H2 σ' x O3 hx _ fun σ4 B4 H4 O4 s4 => t2 B4 H4 σ4 O4
theorem Src.le {G' : List Ent} (h : Src C wi G G0 r as) (l : Le G0 G') : Src C wi G G' r as := fun B H σ O R q => h B H σ O R fun J B' H' O' s hz hJ => q J B' H' (O'.le l) s hz hJ
theorem gs_forF (hp : PassesOwn (model X.prog X.w) X.A X.env X.xe) (hc : X.calm = true) (hi : PI X tg it wi) (hg : PG X tg g) (src : Src C wi G G0 r as) (Gs : S → List Ent) (s0 : S) (f : S → α → S) (h0 : Le G0 (Gs s0))
    (hs : ∀ (B1 : Hp) (i : Nat) (a : α) (s : S), as[i]? = some a → s = (as.take i).foldl f s0 → ∃ Gt, Tg (C.hold B1) g r a (Gs s) Gt ∧ GS X (C.hold B1) Gt body { D with nx := Reach (C.hold B1) (Gs (f s a)), ct := Reach (C.hold B1) (Gs (f s a)), bk := wSs X rest D })
    (k : GS X C (Gs (as.foldl f s0)) rest D) (hfs : ∀ x, foldedSetIterable it X.env x = pure x := by intro _; rfl) : GS X C G (.For tg it body [] pos :: rest) D := by
  refine gs_forW hp hc hi hg (fun i Gi => Gi = Gs ((as.take i).foldl f s0)) (src.le h0) (by rw [List.take_zero]; rfl) (fun B1 i a Gi e hGi => ?_) (fun Gn hGn => ?_) hfs
  · obtain ⟨Gt, t1, t2⟩ := hs B1 i a _ e rfl
    have en : Gs (f ((as.take i).foldl f s0) a) = Gs ((as.take (i + 1)).foldl f s0) := by
      rw [List.take_add_one, e, List.foldl_append]; rfl
    subst hGi
    exact ⟨Gt, t1, gs_mono t2 (fun σ H h => ⟨_, en, h⟩) (fun _ _ h => h) (fun σ H h => ⟨_, en, h⟩) fun _ _ h => h⟩
  · rw [List.take_length] at hGn
    subst hGn
    exact k
end
end TL

namespace TL
open PySem PySem.Spec PyProof.Rows L2
def bE (X : Cx) (scope : Scope) (e : Expr) : TE := fun σ H Q => ∀ (s : Shared) (H0 : Hp) (c : Addr) (cl : List (Str × Addr)) (fp : List Addr), wE (X.blk s H0 scope (compEnvC scope cl c X.env) fp) e σ H Q
def bT (X : Cx) (scope : Scope) (e : Expr) : TT := fun σ H Q => ∀ (s : Shared) (H0 : Hp) (c : Addr) (cl : List (Str × Addr)) (fp : List Addr), wT (X.blk s H0 scope (compEnvC scope cl c X.env) fp) e σ H Q
abbrev Cx.bl (X : Cx) (scope : Scope) (s : Shared) (H0 : Hp) (c : Addr) (cl : List (Str × Addr)) (fp : List Addr) : Cx := X.blk s H0 scope (compEnvC scope cl c X.env) fp
theorem bE_of {X : Cx} {scope : Scope} {e : Expr} {C : C0} {G G' : List Ent} {r : Ent} (h : ∀ s H0 c cl fp, XE (Cx.bl X scope s H0 c cl fp) C e G G' r) : Ev C (bE X scope e) G G' r := fun B H σ O Q q s H0 c cl fp => h s H0 c cl fp B H σ O Q q
theorem bT_of {X : Cx} {scope : Scope} {e : Expr} {C : C0} {G G' : List Ent} {b : Bool} (h : ∀ s H0 c cl fp, XT (Cx.bl X scope s H0 c cl fp) C e G G' b) : EvT C (bT X scope e) G G' b := fun B H σ O Q q s H0 c cl fp => h s H0 c cl fp B H σ O Q q
def TgC {α : Type} (C : C0) (g : TG) (r : Rp α) (a : α) (vs : List Nat) (G Gt : List Ent) : Prop := ∀ B H σ v, Ok C G B H σ → r.rel B v a → ∀ Q : L2.St → Hp → Prop,
  (∀ σ' B' H', Ok C Gt B' H' σ' → Same B B' → wipe σ' vs = wipe σ vs → (∀ i, i ∉ vs → σ'[i]? = σ[i]?) → Q σ' H') → g v (wipe σ vs) H Q
def wipeG (G : List Ent) : List Nat → List Ent
  | [] => G
  | v :: vs => (wipeG G vs).set v .any
theorem Ok.wipe {C : C0} {G : List Ent} {B H : Hp} {σ : L2.St} (O : Ok C G B H σ) : ∀ vs : List Nat, Ok C (wipeG G vs) B H (L2.wipe σ vs)
  | [] => O
  | v :: vs => (O.wipe vs).forget v none
theorem wipe_get {σ : L2.St} : ∀ {vs : List Nat} {i : Nat}, i ∉ vs → (wipe σ vs)[i]? = σ[i]?
  | [], _, _ => rfl
  | v :: vs, i, h => by
    rw [wipe, List.getElem?_set_ne (fun e => h (by rw [← e]; exact List.mem_cons_self)), wipe_get fun m => h (List.mem_cons_of_mem _ m)]
def NoOwn (G : List Ent) (vs : List Nat) : Prop := ∀ v ∈ vs, ∀ e, G[v]? = some e → e.mine = false
theorem noOwn_nil {G : List Ent} : NoOwn G [] := fun _ h => absurd h List.not_mem_nil
theorem noOwn_cons {G : List Ent} {v : Nat} {vs : List Nat} {e : Ent} (h : G[v]? = some e) (hm : e.mine = false) (t : NoOwn G vs) : NoOwn G (v :: vs) := fun u hu e' he => by
  rcases List.mem_cons.mp hu with rfl | hu
  · rw [h] at he; cases he; exact hm
  · exact t u hu e' he
theorem Ok.back {C : C0} {G Gt G' : List Ent} {B H B' H' : Hp} {σ σ' : L2.St} {vs : List Nat} (O : Ok C G B H σ) (O' : Ok C Gt B' H' σ') (s : Same B B') (hw : ∀ i, i ∉ vs → σ'[i]? = σ[i]?) (hl : G'.length = G.length)
    (h1 : ∀ i, i ∉ vs → G'[i]? = Gt[i]?) (h2 : ∀ i, i ∈ vs → G'[i]? = G[i]?) (no : NoOwn G vs) : Ok C G' B' H' σ where
  g := O'.g
  h1 := O'.h1
  len := by rw [hl]; exact O.len
  ent := fun i e ov hi hs => by
    by_cases q : i ∈ vs
    · rw [h2 i q] at hi
      exact (O.ent i e ov hi hs).keep s fun p o e1 e2 e3 => by rw [no i q e hi] at e2; cases e2
    · rw [h1 i q] at hi
      exact O'.ent i e ov hi (by rw [hw i q]; exact hs)
  sep := fun i j e e' p n hi hj m m' s1 s2 => by
    have qi : i ∉ vs := fun q => by rw [h2 i q] at hi; rw [no i q e hi] at m; cases m
    have qj : j ∉ vs := fun q => by rw [h2 j q] at hj; rw [no j q e' hj] at m'; cases m'
    rw [h1 i qi] at hi
    rw [h1 j qj] at hj
    exact O'.sep i j e e' p n hi hj m m' (by rw [hw i qi]; exact s1) (by rw [hw j qj]; exact s2)
section
variable {C : C0} {G G' G0 G1 G2 : List Ent} {α β γ S : Type} {r : Rp α} {s : Rp β} {as : List α} {wi : TI} {g : TG} {tt : TT} {te : TE} {vs : List Nat} {K : PySem.W.Frag}
theorem tgc_name {a : α} {j : Nat} : TgC C (gName j) r a [j] G (G.set j (.dat r a)) := fun B H σ v O hv Q q => by
  refine q _ B H ?_ (Same.refl _) ?_ fun i hi => ?_
  · have := (O.wipe [j]).storeD (i := j) hv
    rwa [show (wipeG G [j]).set j (.dat r a) = G.set j (.dat r a) from by rw [wipeG, wipeG, List.set_set]] at this
  · show (((σ.set j none).set j (some v)).set j none) = σ.set j none
    rw [List.set_set, List.set_set]
  · rw [List.getElem?_set_ne (fun e => hi (by rw [← e]; exact List.mem_cons_self)), wipe_get hi]
theorem tgc_pair {r2 : Rp β} {a : α × β} {i j : Nat} (hij : i ≠ j) : TgC C (gTup K 2 (gCons (gName i) (gCons (gName j) gNil))) (rP r r2) a [i, j] G ((G.set i (.dat r a.1)).set j (.dat r2 a.2)) := fun B H σ v O hv Q q => by
  obtain ⟨p, x, y, rfl, h2, h3, h4⟩ := hv
  refine ⟨p, [x, y], rfl, SqT.of (O.g.kn.x h2 rfl), rfl, x, [y], rfl, y, [], rfl, rfl, q _ B H ?_ (Same.refl _) ?_ fun k hk => ?_⟩
  · have := ((O.wipe [i, j]).storeD (i := i) h3).storeD (i := j) h4
    rwa [show ((wipeG G [i, j]).set i (.dat r a.1)).set j (.dat r2 a.2) = (G.set i (.dat r a.1)).set j (.dat r2 a.2) from by
      rw [wipeG, wipeG, wipeG, List.set_set, List.set_comm _ _ (Ne.symm hij), List.set_set]] at this
  · show (((((σ.set j none).set i none).set i (some x)).set j (some y)).set j none).set i none = (σ.set j none).set i none
    rw [List.set_set, List.set_set, List.set_comm _ _ hij, List.set_set, List.set_set]
  · rw [List.getElem?_set_ne (fun e => hk (by rw [← e]; exact List.mem_cons_of_mem _ List.mem_cons_self)), List.getElem?_set_ne (fun e => hk (by rw [← e]; exact List.mem_cons_self)), wipe_get hk]
def lcStep (p : S → α → Bool) (f : S → α → S × β) : S × List β → α → S × List β := fun z a => if p z.1 a = true then ((f z.1 a).1, z.2 ++ [(f z.1 a).2]) else z
def C0.see (C : C0) (p : Addr) (o : HO) (B1 : Hp) : C0 := ⟨C.B0, upd C.H0 p o, C.ms, C.lk, B1⟩
theorem Ok.see {B H B1 : Hp} {σ : L2.St} (O : Ok C G B H σ) {p : Addr} {o : HO} (hp : H p = some o) (hB : B p = none) (h0 : C.H0 p = none) (hl : p ∉ C.lk) (ha : Apart G σ p) (s1 : Same B1 B) : Ok (C.see p o B1) G B H σ := by
  refine ⟨⟨O.g.bb, O.g.kn, fun b x nb e => ?_, fun b x e => ?_, fun b x e t => ?_, O.g.hl, fun b e => ?_, O.g.sm⟩, s1, O.len, fun i e ov hi hs => ?_, O.sep⟩
  · by_cases q : b = p
    · subst q
      rw [show (C.see b o B1).H0 = upd C.H0 b o from rfl, upd_same] at e
      cases e; exact .inl hp
    · rw [show (C.see p o B1).H0 = upd C.H0 p o from rfl, upd_ne q] at e
      exact O.g.hh b x nb e
  · by_cases q : b = p
    · subst q
      rw [show (C.see b o B1).H0 = upd C.H0 b o from rfl, upd_same] at e
      cases e; exact ⟨_, hp, id⟩
    · rw [show (C.see p o B1).H0 = upd C.H0 p o from rfl, upd_ne q] at e
      exact O.g.mm b x e
  · by_cases q : b = p
    · subst q
      have : C.B0 b = none := by
        cases e : C.B0 b with
        | none => rfl
        | some u => rw [O.g.bb b u e] at hB; cases hB
      show B b = C.B0 b
      rw [hB, this]
    · rw [show (C.see p o B1).H0 = upd C.H0 p o from rfl, upd_ne q] at e
      exact O.g.nw b x e t
  · obtain ⟨z1, z2⟩ := O.g.ml b e
    refine ⟨?_, z2⟩
    have q : b ≠ p := fun q => by subst q; exact z1 h0
    rw [show (C.see p o B1).H0 = upd C.H0 p o from rfl, upd_ne q]
    exact z1
  · have h := O.ent i e ov hi hs
    have ne : ∀ q, ov = some (.ref q) → e.mine = true → q ≠ p := fun q e1 e2 z => ha i e hi e2 (by rw [hs, e1, z])
    cases e with
    | any => trivial
    | dat r a => exact h
    | tld F a =>
      obtain ⟨v, L, k1, k2, k3, k4⟩ := h
      refine ⟨v, L, k1, k2, k3, fun q hq => ?_⟩
      obtain ⟨vs, hb, _⟩ := F.lst k2 q hq
      rw [show (C.see p o B1).H0 = upd C.H0 p o from rfl, upd_ne (ne_of_none hb hB)]; exact k4 q hq
    | own m r l =>
      obtain ⟨q, us, e1, e2, ⟨e3, e4, e5⟩, e6⟩ := h
      refine ⟨q, us, e1, e2, ⟨e3, e4, ?_⟩, e6⟩
      rw [show (C.see p o B1).H0 = upd C.H0 p o from rfl, upd_ne (ne q e1 rfl)]; exact e5
    | ownT m r l =>
      obtain ⟨q, us, e1, e2, ⟨e3, e4, e5⟩, e6⟩ := h
      refine ⟨q, us, e1, e2, ⟨e3, e4, ?_⟩, e6⟩
      rw [show (C.see p o B1).H0 = upd C.H0 p o from rfl, upd_ne (ne q e1 rfl)]; exact e5
    | ownK m r l =>
      obtain ⟨q, us, e1, e2, ⟨e3, e4, e5⟩, e6⟩ := h
      refine ⟨q, us, e1, e2, ⟨e3, e4, ?_⟩, e6⟩
      rw [show (C.see p o B1).H0 = upd C.H0 p o from rfl, upd_ne (ne q e1 rfl)]; exact e5
    | ownX m l =>
      obtain ⟨q, us, e1, e2, ⟨e3, e4, e5⟩, e6⟩ := h
      refine ⟨q, us, e1, e2, ⟨e3, e4, ?_⟩, e6⟩
      rw [show (C.see p o B1).H0 = upd C.H0 p o from rfl, upd_ne (ne q e1 rfl)]; exact e5
theorem Ok.unsee {B H B1 : Hp} {σ : L2.St} {p : Addr} {o : HO} (O : Ok (C.see p o B1) G B H σ) (h0 : C.H0 p = none) (hl : p ∉ C.lk) (hm : p ∉ C.ms) (hB : C.B0 p = none) (ht : isTup o = false) : H p = some o ∧ B p = none ∧ Apart G σ p ∧ ∀ o', Small o' → Ok (C.hold B1) G B (upd H p o') σ := by
  have e0 : (C.see p o B1).H0 = upd C.H0 p o := rfl
  have hBp : B p = none := by
    have := O.g.nw p o (by rw [e0, upd_same]) ht
    rw [this]; exact hB
  have hH : H p = some o := by
    rcases O.g.hh p o hm (by rw [e0, upd_same]) with e | ⟨_, e, _⟩
    · exact e
    · rw [hBp] at e; cases e
  have ne : ∀ (i : Nat) (e : Ent) (ov : Option V) (q : Addr), G[i]? = some e → σ[i]? = some ov → ov = some (.ref q) → e.mine = true → q ≠ p := fun i e ov q hi hs e1 e2 z => by
    subst z
    obtain ⟨q2, _, r1, _, _, _, r5, _⟩ := (O.ent i e ov hi hs).mine_at e2
    rw [e1] at r1; cases r1
    rcases r5 with r5 | r5
    · exact hm r5
    · rw [e0, upd_same] at r5; cases r5
  refine ⟨hH, hBp, fun j e hj m hs => ne j e _ p hj hs rfl m rfl, fun o' hso => ⟨⟨O.g.bb, fun a u e => ?_, fun b x nb e => ?_, fun b x e => ?_, fun b x e t => ?_, fun b e => ?_, fun b e => ?_, fun b x e => ?_⟩, O.h1, O.len, fun i e ov hi hs => ?_, O.sep⟩⟩
  · have q : a ≠ p := ne_of_none e hBp
    rw [upd_ne q]; exact O.g.kn a u e
  · have q : b ≠ p := ne_of_none e h0
    rw [upd_ne q]; exact O.g.hh b x nb (by rw [e0, upd_ne q]; exact e)
  · have q : b ≠ p := ne_of_none e h0
    rw [upd_ne q]; exact O.g.mm b x (by rw [e0, upd_ne q]; exact e)
  · have q : b ≠ p := ne_of_none e h0
    exact O.g.nw b x (by rw [e0, upd_ne q]; exact e) t
  · have q : b ≠ p := fun z => hl (z ▸ e)
    rw [upd_ne q]; exact O.g.hl b e
  · have q : b ≠ p := fun z => hm (z ▸ e)
    obtain ⟨z1, z2, z3, z4, z5⟩ := O.g.ml b e
    exact ⟨by rw [e0, upd_ne q] at z1; exact z1, z2, z3, by rw [upd_ne q]; exact z4, z5⟩
  · by_cases q : b = p
    · subst q; rw [upd_same] at e; cases e; exact hso
    · rw [upd_ne q] at e; exact O.g.sm b x e
  · have h := O.ent i e ov hi hs
    have ne' : ∀ q, ov = some (.ref q) → e.mine = true → q ≠ p := fun q e1 e2 => ne i e ov q hi hs e1 e2
    cases e with
    | any => trivial
    | dat r a => exact h
    | tld F a =>
      obtain ⟨v, L, k1, k2, k3, k4⟩ := h
      refine ⟨v, L, k1, k2, k3, fun q hq => ?_⟩
      obtain ⟨vs, hb, _⟩ := F.lst k2 q hq
      have n : q ≠ p := ne_of_none hb hBp
      have := k4 q hq
      rw [e0, upd_ne n] at this; exact this
    | own m r l =>
      obtain ⟨q, us, e1, e2, ⟨e3, e4, e5⟩, e6⟩ := h
      have n := ne' q e1 rfl
      rw [e0, upd_ne n] at e5
      exact ⟨q, us, e1, by rw [upd_ne n]; exact e2, ⟨e3, e4, e5⟩, e6⟩
    | ownT m r l =>
      obtain ⟨q, us, e1, e2, ⟨e3, e4, e5⟩, e6⟩ := h
      have n := ne' q e1 rfl
      rw [e0, upd_ne n] at e5
      exact ⟨q, us, e1, by rw [upd_ne n]; exact e2, ⟨e3, e4, e5⟩, e6⟩
    | ownK m r l =>
      obtain ⟨q, us, e1, e2, ⟨e3, e4, e5⟩, e6⟩ := h
      have n := ne' q e1 rfl
      rw [e0, upd_ne n] at e5
      exact ⟨q, us, e1, by rw [upd_ne n]; exact e2, ⟨e3, e4, e5⟩, e6⟩
    | ownX m l =>
      obtain ⟨q, us, e1, e2, ⟨e3, e4, e5⟩, e6⟩ := h
      have n := ne' q e1 rfl
      rw [e0, upd_ne n] at e5
      exact ⟨q, us, e1, by rw [upd_ne n]; exact e2, ⟨e3, e4, e5⟩, e6⟩
theorem ev_lcSD (src : SrcD C wi G G0 r as) (Gs : S → List Ent) (s0 : S) (h0 : Le G0 (Gs s0)) (p : S → α → Bool) (f : S → α → S × β) 
    (hG : ∀ s, (Gs s).length = (Gs s0).length) (hv : ∀ s, ∀ v ∈ vs, (Gs s)[v]? = (Gs s0)[v]?) (no : NoOwn (Gs s0) vs)
    (hs : ∀ (C1 : C0) (i : Nat) (a : α) (z : S), as[i]? = some a → z = ((as.take i).foldl (lcStep p f) (s0, [])).1 → ∃ Gt, TgC C1 g r a vs (Gs z) Gt ∧ EvT C1 tt Gt Gt (p z a) ∧ (∀ k, k ∉ vs → Gt[k]? = (Gs z)[k]?) ∧
      (p z a = true → ∃ Gu, Ev C1 te Gt Gu (.dat s (f z a).2) ∧ ∀ k, k ∉ vs → Gu[k]? = (Gs (f z a).1)[k]?)) :
    Ev C (tLc wi g tt te vs) G (Gs (as.foldl (lcStep p f) (s0, [])).1) (.own false s (as.foldl (lcStep p f) (s0, [])).2) := fun B H σ O Q q => by
  refine src B H σ O _ fun J B1 H1 C' O1 up s1 hz hJ Dl hD => ?_
  have O1' := O1.le h0
  obtain ⟨O2, ⟨m1, m2, m3⟩, m4, m5⟩ := O1'.made (o := .lst []) hD (Nat.zero_le _)
  have hB0 : C'.B0 Dl = none := by
    cases e : C'.B0 Dl with
    | none => rfl
    | some u => rw [O1.g.bb Dl u e] at m1; cases m1
  let st : Nat → S × List β := fun i => (as.take i).foldl (lcStep p f) (s0, [])
  have stS : ∀ i a, as[i]? = some a → st (i + 1) = lcStep p f (st i) a := fun i a e => by
    show (as.take (i + 1)).foldl _ _ = _
    rw [List.take_add_one, e, List.foldl_append]; rfl
  have stL : ∀ i, i ≤ as.length → (st i).2.length ≤ i := fun i => by
    induction i with
    | zero => intro _; show ((as.take 0).foldl (lcStep p f) (s0, [])).2.length ≤ 0; rw [List.take_zero]; exact Nat.le_refl 0
    | succ i ih =>
      intro hi
      have e : as[i]? = some as[i] := List.getElem?_eq_getElem (by omega)
      rw [stS i _ e]
      have := ih (by omega)
      unfold lcStep
      split
      · rw [List.length_append, List.length_singleton]; omega
      · omega
  let W : Nat → Hp → Prop := fun i H' => ∃ B', Ok (C'.hold B1) (Gs (st i).1) B' H' σ ∧ B' Dl = none ∧ Apart (Gs (st i).1) σ Dl ∧ ∃ us, H' Dl = some (.lst us) ∧ Paired (s.rel B') us (st i).2
  refine ⟨fun i m H' => i + m = as.length ∧ W i H', ⟨as.length, Nat.zero_add _, B1, O2.hold (Same.refl _), m1, m4, [], upd_same, .nil⟩, fun i m H' hW => ?_⟩
  obtain ⟨em, B', O', hB', hap, us, hus, hpu⟩ := hW
  obtain ⟨j1, j2⟩ := hJ (C'.see Dl (.lst us) B1) (fun b o u e => by rw [show (C'.see Dl (.lst us) B1).H0 = upd C'.H0 Dl (.lst us) from rfl, upd_ne (ne_of_none e m3)]; exact e) i _ B' H' σ (O'.see (C := C'.hold B1) hus hB' m3 m2 hap O'.h1) O'.h1
  cases e : as[i]? with
  | none =>
    have hi : as.length ≤ i := List.getElem?_eq_none_iff.mp e
    have ei : i = as.length := by omega
    refine .inl ⟨j1 hi, ?_⟩
    have est : st i = as.foldl (lcStep p f) (s0, []) := by show (as.take i).foldl _ _ = _; rw [ei, List.take_length]
    rw [est] at O' hap hpu
    exact q (.ref Dl) B' H' (up.ok (O'.unhold (O1.h1.trans O'.h1))) (s1.trans O'.h1) (up.en (O'.unhold (O1.h1.trans O'.h1)).bare (show EntOk C' B' H' (.own false s _) (some (.ref Dl)) from ⟨Dl, us, rfl, hus, ⟨hB', m2, m3⟩, hpu⟩)) fun _ p' e' => by cases e'; exact hap
  | some a =>
    have hi : i < as.length := lt_get e
    obtain ⟨q1, q2⟩ := j2 a e
    refine .inr ⟨q1, W (i + 1), fun H2 h2 => ⟨m - 1, by omega, by omega, h2⟩, fun x H2 hy => ?_⟩
    obtain ⟨B3, O3, s3, hx⟩ := q2 x H2 hy
    obtain ⟨Gt, t1, t2, t3, t4⟩ := hs (C'.see Dl (.lst us) B1) i a (st i).1 e rfl
    refine t1 B3 H2 σ x O3 hx _ fun σ4 B4 H4 O4 s4 w4 w5 => ⟨w4, t2 B4 H4 σ4 O4 _ fun B5 H5 O5 s5 => ?_⟩
    have hstep := stS i a e
    have hno : NoOwn (Gs (st i).1) vs := fun v hv' e' he' => no v hv' e' (by rw [← hv (st i).1 v hv']; exact he')
    cases hp : p (st i).1 a with
    | true =>
      refine iteT ?_
      obtain ⟨Gu, u1, u2⟩ := t4 hp
      refine (u1.go O5) fun y B6 H6 O6 s6 hy6 => ?_
      have O7 : Ok (C'.see Dl (.lst us) B1) (Gs (f (st i).1 a).1) B6 H6 σ := O3.back O6 ((s4.trans s5).trans s6) w5 ((hG _).trans (hG _).symm) (fun k hk => (u2 k hk).symm) (fun k hk => (hv _ k hk).trans (hv _ k hk).symm) hno
      obtain ⟨v1, v2, v3, v4⟩ := O7.unsee m3 m2 m5 hB0 rfl
      have hlt : us.length < sizeLine := by
        have := stL i (by omega)
        rw [hpu.length]
        exact Nat.lt_of_le_of_lt this (Nat.lt_of_lt_of_le hi hz)
      refine ⟨us, v1, hlt, B6, ?_, v2, ?_, us ++ [y], upd_same, ?_⟩
      · rw [hstep, show lcStep p f (st i) a = ((f (st i).1 a).1, (st i).2 ++ [(f (st i).1 a).2]) from by rw [lcStep, if_pos hp]]
        exact v4 _ (by show (us ++ [y]).length ≤ sizeLine; rw [List.length_append]; exact hlt)
      · rw [hstep, show lcStep p f (st i) a = ((f (st i).1 a).1, (st i).2 ++ [(f (st i).1 a).2]) from by rw [lcStep, if_pos hp]]
        exact v3
      · rw [hstep, show lcStep p f (st i) a = ((f (st i).1 a).1, (st i).2 ++ [(f (st i).1 a).2]) from by rw [lcStep, if_pos hp]]
        exact (paired_mono (((s3.trans s4).trans s5).trans s6) hpu).snoc hy6
    | false =>
      refine iteF ?_
      have O7 : Ok (C'.see Dl (.lst us) B1) (Gs (st i).1) B5 H5 σ := O3.back O5 (s4.trans s5) w5 rfl (fun k hk => (t3 k hk).symm) (fun k hk => rfl) hno
      obtain ⟨v1, v2, v3, v4⟩ := O7.unsee m3 m2 m5 hB0 rfl
      have ho : upd H5 Dl (.lst us) = H5 := funext fun b => by
        by_cases q : b = Dl
        · subst q; rw [upd_same, v1]
        · rw [upd_ne q]
      refine ⟨B5, ?_, v2, ?_, us, v1, ?_⟩
      · rw [hstep, show lcStep p f (st i) a = st i from by rw [lcStep, if_neg (by rw [hp]; exact Bool.false_ne_true)], ← ho]
        exact v4 _ (by have := O'.g.sm Dl _ hus; exact this)
      · rw [hstep, show lcStep p f (st i) a = st i from by rw [lcStep, if_neg (by rw [hp]; exact Bool.false_ne_true)]]
        exact v3
      · rw [hstep, show lcStep p f (st i) a = st i from by rw [lcStep, if_neg (by rw [hp]; exact Bool.false_ne_true)]]
        exact paired_mono ((s3.trans s4).trans s5) hpu
theorem ev_lcS (src : Src C wi G G0 r as) (Gs : S → List Ent) (s0 : S) (h0 : Le G0 (Gs s0)) (p : S → α → Bool) (f : S → α → S × β) 
    (hG : ∀ s, (Gs s).length = (Gs s0).length) (hv : ∀ s, ∀ v ∈ vs, (Gs s)[v]? = (Gs s0)[v]?) (no : NoOwn (Gs s0) vs)
    (hs : ∀ (C1 : C0) (i : Nat) (a : α) (z : S), as[i]? = some a → z = ((as.take i).foldl (lcStep p f) (s0, [])).1 → ∃ Gt, TgC C1 g r a vs (Gs z) Gt ∧ EvT C1 tt Gt Gt (p z a) ∧ (∀ k, k ∉ vs → Gt[k]? = (Gs z)[k]?) ∧
      (p z a = true → ∃ Gu, Ev C1 te Gt Gu (.dat s (f z a).2) ∧ ∀ k, k ∉ vs → Gu[k]? = (Gs (f z a).1)[k]?)) :
    Ev C (tLc wi g tt te vs) G (Gs (as.foldl (lcStep p f) (s0, [])).1) (.own false s (as.foldl (lcStep p f) (s0, [])).2) :=
  ev_lcSD src.d Gs s0 h0 p f hG hv no hs
theorem lc_fold (p : α → Bool) (f : α → β) : ∀ (as : List α) (acc : List β), as.foldl (lcStep (S := Unit) (fun _ => p) fun _ a => ((), f a)) ((), acc) = ((), acc ++ (as.filter p).map f)
  | [], acc => by rw [List.foldl_nil, List.filter_nil, List.map_nil, List.append_nil]
  | a :: as, acc => by
    rw [List.foldl_cons]
    cases h : p a with
    | true => rw [show lcStep (S := Unit) (fun _ => p) (fun _ a => ((), f a)) ((), acc) a = ((), acc ++ [f a]) from by rw [lcStep, if_pos h], lc_fold p f as, List.filter_cons, if_pos h, List.map_cons, List.append_assoc]; rfl
    | false => rw [show lcStep (S := Unit) (fun _ => p) (fun _ a => ((), f a)) ((), acc) a = ((), acc) from by rw [lcStep, if_neg (by rw [h]; exact Bool.false_ne_true)], lc_fold p f as, List.filter_cons, if_neg (by rw [h]; exact Bool.false_ne_true)]
theorem ev_lc (src : Src C wi G G0 r as) (p : α → Bool) (f : α → β) (no : NoOwn G0 vs)
    (hs : ∀ (C1 : C0) (a : α), a ∈ as → ∃ Gt, TgC C1 g r a vs G0 Gt ∧ EvT C1 tt Gt Gt (p a) ∧ (∀ k, k ∉ vs → Gt[k]? = G0[k]?) ∧ (p a = true → Ev C1 te Gt Gt (.dat s (f a)))) :
    Ev C (tLc wi g tt te vs) G G0 (.own false s ((as.filter p).map f)) := by
  have := ev_lcS (S := Unit) (C := C) (vs := vs) (tt := tt) (te := te) (g := g) (s := s) src (fun _ => G0) () (Le.refl _) (fun _ => p) (fun _ a => ((), f a)) (fun _ => rfl) (fun _ _ _ => rfl) no (fun C1 i a z e _ => by
    obtain ⟨Gt, t1, t2, t3, t4⟩ := hs C1 a (List.mem_of_getElem? e)
    exact ⟨Gt, t1, t2, t3, fun hp => ⟨Gt, t4 hp, t3⟩⟩)
  rw [lc_fold, List.nil_append] at this
  exact this
theorem ev_lcD (src : SrcD C wi G G0 r as) (p : α → Bool) (f : α → β) (no : NoOwn G0 vs)
    (hs : ∀ (C1 : C0) (a : α), a ∈ as → ∃ Gt, TgC C1 g r a vs G0 Gt ∧ EvT C1 tt Gt Gt (p a) ∧ (∀ k, k ∉ vs → Gt[k]? = G0[k]?) ∧ (p a = true → Ev C1 te Gt Gt (.dat s (f a)))) :
    Ev C (tLc wi g tt te vs) G G0 (.own false s ((as.filter p).map f)) := by
  have := ev_lcSD (S := Unit) (C := C) (vs := vs) (tt := tt) (te := te) (g := g) (s := s) src (fun _ => G0) () (Le.refl _) (fun _ => p) (fun _ a => ((), f a)) (fun _ => rfl) (fun _ _ _ => rfl) no (fun C1 i a z e _ => by
    obtain ⟨Gt, t1, t2, t3, t4⟩ := hs C1 a (List.mem_of_getElem? e)
    exact ⟨Gt, t1, t2, t3, fun hp => ⟨Gt, t4 hp, t3⟩⟩)
  rw [lc_fold, List.nil_append] at this
  exact this
end
end TL

namespace TL
open PySem PySem.Spec PyProof.Rows L2
structure FS (ι : Type) where
  args : ι → List Ent
  res : ι → Ent
  post : ι → Ent := fun _ => .any
  bad : ι → Option Value := fun _ => none
abbrev C00 (B H : Hp) (ms : List Addr) : C0 := ⟨B, H, ms, [], fun _ => none⟩
def FS.sp {ι : Type} (F : FS ι) : Sp := fun vs H Q E => ∃ (x : ι) (B : Hp) (ms : List Addr), Ok (C00 B H ms) (F.args x) B H (vs.map some) ∧ (∀ p ∈ ms, ∀ q ∈ ms, p = q) ∧
  match F.bad x with
  | none => ∀ v B' H', Grow ms [] B H B' H' → EntOk (C00 B H ms) B' H' (F.res x) (some v) → (∀ p ∈ ms, EntOk (C00 B H ms) B' H' (F.post x) (some (.ref p))) → Q v H'
  | some c => ∀ B' H', Grow ms [] B H B' H' → E c none H'
def Posted (G : List Ent) (po : Ent) : Prop := po = .any ∨ ∃ (k : Nat) (e : Ent), G[k]? = some po ∧ e = po ∧ match e with
  | .own m _ _ => m = true
  | .ownT m _ _ => m = true
  | .ownK m _ _ => m = true
  | .ownX m _ => m = true
  | _ => False
theorem posted_any {G : List Ent} : Posted G .any := .inl rfl
theorem posted_own {G : List Ent} {α : Type} {r : Rp α} {l : List α} (k : Nat) (h : G[k]? = some (.own true r l)) : Posted G (.own true r l) := .inr ⟨k, _, h, rfl, rfl⟩
theorem Posted.ok {C : C0} {G : List Ent} {po : Ent} {B H : Hp} {σ : L2.St} (h : Posted G po) (O : Ok C G B H σ) (hm : ∀ p ∈ C.ms, ∀ q ∈ C.ms, p = q) : ∀ p ∈ C.ms, EntOk C B H po (some (.ref p)) := fun p hp => by
  rcases h with rfl | ⟨k, e, hk, rfl, he⟩
  · trivial
  · obtain ⟨ov, hs, hv⟩ := O.slot hk
    cases e with
    | any => exact he.elim
    | dat r a => exact he.elim
    | tld F a => exact he.elim
    | own m r l =>
      obtain ⟨q, us, rfl, e2, ⟨e3, e4, e5⟩, e6⟩ := hv
      have hm' : m = true := he
      subst hm'
      have : q = p := hm q e5.1 p hp
      subst this
      exact ⟨q, us, rfl, e2, ⟨e3, e4, e5⟩, e6⟩
    | ownT m r l =>
      obtain ⟨q, us, rfl, e2, ⟨e3, e4, e5⟩, e6⟩ := hv
      have hm' : m = true := he
      subst hm'
      have : q = p := hm q e5.1 p hp
      subst this
      exact ⟨q, us, rfl, e2, ⟨e3, e4, e5⟩, e6⟩
    | ownK m r l =>
      obtain ⟨q, us, rfl, e2, ⟨e3, e4, e5⟩, e6⟩ := hv
      have hm' : m = true := he
      subst hm'
      have : q = p := hm q e5.1 p hp
      subst this
      exact ⟨q, us, rfl, e2, ⟨e3, e4, e5⟩, e6⟩
    | ownX m l =>
      obtain ⟨q, us, rfl, e2, ⟨e3, e4, e5⟩, e6⟩ := hv
      have hm' : m = true := he
      subst hm'
      have : q = p := hm q e5.1 p hp
      subst this
      exact ⟨q, us, rfl, e2, ⟨e3, e4, e5⟩, e6⟩
theorem Ok.start {C : C0} {G : List Ent} {B H : Hp} {vs : List V} (O : Ok C G B H (vs.map some)) (nn : Nat) : Ok C (G ++ List.replicate nn .any) B H (vs.map some ++ List.replicate nn none) where
  g := O.g
  h1 := O.h1
  len := by rw [List.length_append, List.length_append, O.len, List.length_replicate, List.length_replicate]
  ent := fun i e ov hi hs => by
    rcases Nat.lt_or_ge i G.length with q | q
    · rw [List.getElem?_append_left q] at hi
      rw [List.getElem?_append_left (by rw [O.len]; exact q)] at hs
      exact O.ent i e ov hi hs
    · rw [List.getElem?_append_right q, List.getElem?_replicate] at hi
      split at hi
      · cases hi; trivial
      · cases hi
  sep := fun i j e e' p n hi hj m m' s1 s2 => by
    have small : ∀ k (f : Ent), (G ++ List.replicate nn Ent.any)[k]? = some f → f.mine = true → k < G.length ∧ G[k]? = some f := fun k f hk mk => by
      rcases Nat.lt_or_ge k G.length with q | q
      · rw [List.getElem?_append_left q] at hk; exact ⟨q, hk⟩
      · rw [List.getElem?_append_right q, List.getElem?_replicate] at hk
        split at hk
        · cases hk; cases mk
        · cases hk
    obtain ⟨a1, a2⟩ := small i e hi m
    obtain ⟨b1, b2⟩ := small j e' hj m'
    rw [List.getElem?_append_left (by rw [O.len]; exact a1)] at s1
    rw [List.getElem?_append_left (by rw [O.len]; exact b1)] at s2
    exact O.sep i j e e' p n a2 b2 m m' s1 s2
def EndOk {ι : Type} (F : FS ι) (x : ι) (G : List Ent) (r : Ent) : Prop := r = F.res x ∧ F.bad x = none ∧ Posted G (F.post x)
section
variable {P : Program} {w : World} {K : PySem.W.Frag} {mg : Str → Option Value} {base : Heap} {ι : Type}
theorem fs_ok {F : FS ι} {x qual : Str} {st : Stmt} {f : Addr} {fd : FuncData} {N ps : List Str} {k : Nat} (Fn : Fun K x qual st f fd) (S : FnScope N ps (defScope st)) (hl : ∀ x, (F.args x).length = ps.length) (hb : ∀ x, F.bad x = none)
    (body : ∀ (cdv : Value) (A : Around) (outer : List Env) (s : Shared) (H : Hp) (E : XK) (x : ι) (C : C0) (D : Ends), Room k (A.deeper (envOfC qual (defScope st) s.heap.objs.size f cdv)) →
      (∀ G r, EndOk F x G r → RetOk C D G r) → (∀ G, EndOk F x G (.dat TL.rN ()) → ∀ B' H' σ', Ok C G B' H' σ' → D.nx σ' H') →
      GS (cxOf CX0 P w K mg base N qual (defScope st) f cdv A outer s H E).nox C (F.args x ++ List.replicate (N.length - ps.length) .any) (defBody st) D) : FnOk P w K mg base CX0 (k + 1) f fd ps F.sp := by
  refine Fn.ok S (fun vs H Q E h => ?_) (fun cdv A outer s H vs Q E hr h => ?_)
  · obtain ⟨y, B, ms, O, _⟩ := h
    have := O.len
    rw [List.length_map] at this
    rw [this, hl]
  · obtain ⟨y, B, ms, O, hm, q⟩ := h
    rw [hb y] at q
    have hlen : vs.length = ps.length := by
      have := O.len
      rw [List.length_map] at this
      rw [this, hl]
    refine ⟨_, pss_w _, ?_⟩
    rw [show L2.start N vs = vs.map some ++ List.replicate (N.length - ps.length) none from by rw [L2.start, hlen]]
    refine body cdv A outer s H E y (C00 B H ms) _ hr (fun G r hE v B' H' σ' O' hv _ => ?_) (fun G hE B' H' σ' O' => ?_) B H _ (O.start _)
    · obtain ⟨e1, _, e3⟩ := hE
      subst e1
      exact q v B' H' O'.g hv (fun p hp => e3.ok (C := C00 B H ms) O' hm p hp)
    · obtain ⟨e1, _, e3⟩ := hE
      exact q .non B' H' O'.g (by rw [← e1]; exact ⟨_, rfl, rfl⟩) (fun p hp => e3.ok (C := C00 B H ms) O' hm p hp)
end
inductive FitD : List Arg → List Ent → Prop
  | nil : FitD [] []
  | cons {α : Type} {r : Rp α} {a : α} {as : List Arg} {es : List Ent} : FitD as es → FitD (.d r a :: as) (.dat r a :: es)
theorem FitD.ok {C : C0} {B H : Hp} {σ : L2.St} (g : Grow C.ms C.lk C.B0 C.H0 B H) (h1 : Same C.B1 B) : ∀ {as : List Arg} {es : List Ent} {vs : List V}, FitD as es → ArgsOk B σ as vs → Ok C es B H (vs.map some)
  | _, _, _, .nil, .nil => ⟨g, h1, rfl, fun i e ov hi => (by cases hi), fun i j e e' p _ hi => (by cases hi)⟩
  | _, _, _, .cons h, .cons a t => by
    have O := FitD.ok g h1 h t
    refine ⟨g, h1, by rw [List.map_cons, List.length_cons, List.length_cons, O.len], fun i e ov hi hs => ?_, fun i j e e' p n hi hj m m' s1 s2 => ?_⟩
    · cases i with
      | zero => cases hi; cases hs; exact ⟨_, rfl, a⟩
      | succ i => exact O.ent i e ov hi hs
    · cases i with
      | zero => cases hi; cases m
      | succ i =>
        cases j with
        | zero => cases hj; cases m'
        | succ j => exact O.sep i j e e' p (fun z => n (by rw [z])) hi hj m m' s1 s2
theorem FitD.noMine : ∀ {as : List Arg} {es : List Ent}, FitD as es → ∀ (i : Nat) (e : Ent), es[i]? = some e → e.mine = false
  | _, _, .nil, _, _, h => by cases h
  | _, _, .cons _, 0, _, h => by cases h; rfl
  | _, _, .cons t, i + 1, _, h => t.noMine i _ h
theorem Ok.after {C : C0} {G : List Ent} {B H B' H' : Hp} {σ : L2.St} (O : Ok C G B H σ) (g : Grow [] [] B H B' H') : Ok C G B' H' σ where
  g := O.g.trans g fun _ h => absurd h List.not_mem_nil
  h1 := O.h1.trans g.bb
  len := O.len
  ent := fun i e ov hi hs => (O.ent i e ov hi hs).keep g.bb fun p o e1 e2 e3 => by
    obtain ⟨q, _, r1, r2, r3, _, _, r6⟩ := (O.ent i e ov hi hs).mine_at e2
    rw [e1] at r1; cases r1
    refine ⟨?_, (g.nw p _ r2 r6).trans r3⟩
    rcases g.hh p o List.not_mem_nil e3 with e | ⟨_, e, _⟩
    · exact e
    · rw [(g.nw p _ r2 r6).trans r3] at e; cases e
  sep := O.sep
def Ent.flag (m : Bool) : Ent → Ent
  | .own _ r l => .own m r l
  | .ownT _ r l => .ownT m r l
  | .ownK _ r l => .ownK m r l
  | .ownX _ l => .ownX m l
  | e => e
def Ent.fl : Ent → Bool
  | .own m _ _ => m
  | .ownT m _ _ => m
  | .ownK m _ _ => m
  | .ownX m _ => m
  | _ => false
section
variable {C : C0} {G G' G0 G1 G2 : List Ent} {ι : Type} {F : FS ι} {ta : TA} {as : List Arg} {E : XK}
theorem callee_kn {B H : Hp} {σ : L2.St} (O : Ok C G B H σ) : Grow ([] : List Addr) [] B H B H := Grow.refl O.g.kn (fun _ h => absurd h List.not_mem_nil) O.g.sm
theorem ev_call (x : ι) {e : Ent} (ha : EvA C ta G G1 as) (hx : FitD as (F.args x)) (hres : F.res x = e) (hb : F.bad x = none := by rfl) : Ev C (tCall F.sp [] E ta) G G1 e := fun B H σ O Q q => ha B H σ O _ fun vs B1 H1 O1 s1 hvs => by
  rw [List.append_nil]
  refine ⟨x, B1, [], FitD.ok (C := C00 B1 H1 []) (callee_kn O1) (fun _ _ h => by cases h) hx hvs, fun _ h => absurd h List.not_mem_nil, ?_⟩
  rw [hb]
  intro v B' H' g hv _
  have O2 := O1.after g
  have fresh : ∀ p, H1 p = none → C.H0 p = none ∧ p ∉ C.lk := fun p e3 => by
    refine ⟨O1.g.old e3, fun z => ?_⟩
    obtain ⟨od, o, e⟩ := O1.g.hl p z
    rw [e3] at e; cases e
  have ap : ∀ p, H1 p = none → Apart G1 σ p := fun p e3 j e hj hm hs => by
    obtain ⟨p2, o2, r1, r2, _⟩ := (O1.ent j e _ hj hs).mine_at hm
    cases r1; rw [e3] at r2; cases r2
  have conv : ∀ {m : Bool} {p : Addr}, Mine (C00 B1 H1 []) B' m p → H1 p = none ∧ Mine C B' m p := fun {m p} h => by
    obtain ⟨h1, _, h3⟩ := h
    cases m with
    | true => rw [if_pos rfl] at h3; exact absurd h3.1 List.not_mem_nil
    | false =>
      rw [if_neg Bool.false_ne_true] at h3
      obtain ⟨f1, f2⟩ := fresh p h3
      exact ⟨h3, h1, f2, by rw [if_neg Bool.false_ne_true]; exact f1⟩
  rw [hres] at hv
  cases e with
  | any => exact q v B' H' O2 (s1.trans g.bb) trivial fun m => by cases m
  | dat r a => exact q v B' H' O2 (s1.trans g.bb) hv fun m => by cases m
  | tld F a =>
    obtain ⟨u, L, k1, k2, k3, k4⟩ := hv
    exact q v B' H' O2 (s1.trans g.bb) ⟨u, L, k1, k2, k3, fun p hp => (fresh p (k4 p hp)).1⟩ fun m => by cases m
  | own m r l =>
    obtain ⟨p, us, e1, e2, e3, e4⟩ := hv
    cases e1
    obtain ⟨h3, h4⟩ := conv e3
    exact q _ B' H' O2 (s1.trans g.bb) ⟨p, us, rfl, e2, h4, e4⟩ fun _ p' e => by cases e; exact ap p h3
  | ownT m r l =>
    obtain ⟨p, us, e1, e2, e3, e4⟩ := hv
    cases e1
    obtain ⟨h3, h4⟩ := conv e3
    exact q _ B' H' O2 (s1.trans g.bb) ⟨p, us, rfl, e2, h4, e4⟩ fun _ p' e => by cases e; exact ap p h3
  | ownK m r l =>
    obtain ⟨p, us, e1, e2, e3, e4⟩ := hv
    cases e1
    obtain ⟨h3, h4⟩ := conv e3
    exact q _ B' H' O2 (s1.trans g.bb) ⟨p, us, rfl, e2, h4, e4⟩ fun _ p' e => by cases e; exact ap p h3
  | ownX m l =>
    obtain ⟨p, us, e1, e2, e3, e4⟩ := hv
    cases e1
    obtain ⟨h3, h4⟩ := conv e3
    exact q _ B' H' O2 (s1.trans g.bb) ⟨p, us, rfl, e2, h4, e4⟩ fun _ p' e => by cases e; exact ap p h3
theorem EntOk.reflag {C C' : C0} {B H : Hp} {e : Ent} {m : Bool} {p : Addr} (h : EntOk C' B H e (some (.ref p))) (hm : e.mine = true) (k : B p = none → Mine C B m p) : EntOk C B H (e.flag m) (some (.ref p)) := by
  cases e with
  | any => cases hm
  | dat r a => cases hm
  | tld F a => cases hm
  | own m' r l =>
    obtain ⟨q, us, e1, e2, e3, e4⟩ := h
    cases e1
    exact ⟨_, us, rfl, e2, k e3.1, e4⟩
  | ownT m' r l =>
    obtain ⟨q, us, e1, e2, e3, e4⟩ := h
    cases e1
    exact ⟨_, us, rfl, e2, k e3.1, e4⟩
  | ownK m' r l =>
    obtain ⟨q, us, e1, e2, e3, e4⟩ := h
    cases e1
    exact ⟨_, us, rfl, e2, k e3.1, e4⟩
  | ownX m' l =>
    obtain ⟨q, us, e1, e2, e3, e4⟩ := h
    cases e1
    exact ⟨_, us, rfl, e2, k e3.1, e4⟩
theorem ev_callO (x : ι) {i : Nat} {e : Ent} {es : List Ent} (ha : EvA C ta G G1 (.s i :: as)) (hi : G1[i]? = some e) (hm : e.mine = true) (hx1 : F.args x = e.flag true :: es) (hx : FitD as es) {α : Type} {r : Rp α} {a : α} (hres : F.res x = .dat r a)
    (hpm : (F.post x).mine = true := by rfl) (hb : F.bad x = none := by rfl) : Ev C (tCall F.sp [] E ta) G (G1.set i ((F.post x).flag e.fl)) (.dat r a) := Ev.mk fun B H σ O Q q => ha B H σ O _ fun vs B1 H1 O1 s1 hvs => by
  rw [List.append_nil]
  cases hvs with
  | cons hv0 hvs =>
    rename_i v0 vs
    have hv0' : σ[i]? = some (some v0) := hv0
    have hent := O1.ent i e _ hi hv0'
    obtain ⟨p, o, r1, r2, r3, r4, r5, r6⟩ := hent.mine_at hm
    cases r1
    have hfl : Mine C B1 e.fl p := by
      cases e with
      | any => cases hm
      | dat r a => cases hm
      | tld F a => cases hm
      | own m r l => obtain ⟨q', _, e1', _, e3', _⟩ := hent; cases e1'; exact e3'
      | ownT m r l => obtain ⟨q', _, e1', _, e3', _⟩ := hent; cases e1'; exact e3'
      | ownK m r l => obtain ⟨q', _, e1', _, e3', _⟩ := hent; cases e1'; exact e3'
      | ownX m l => obtain ⟨q', _, e1', _, e3', _⟩ := hent; cases e1'; exact e3'
    have g0 : Grow [p] [] B1 H1 B1 H1 := Grow.refl O1.g.kn (fun b hb => by rw [List.mem_singleton.mp hb]; exact ⟨r3, _, r2, r6⟩) O1.g.sm
    have Oes := FitD.ok (C := C00 B1 H1 [p]) (σ := σ) g0 (fun _ _ h => by cases h) hx hvs
    have hflm : (e.flag true).mine = true := by cases e <;> first | exact hm | rfl
    refine ⟨x, B1, [p], ?_, fun a ha b hb => by rw [List.mem_singleton.mp ha, List.mem_singleton.mp hb], ?_⟩
    · rw [hx1]
      refine ⟨g0, fun _ _ h => (by cases h), by rw [List.map_cons, List.length_cons, List.length_cons, Oes.len], fun j f ov hj hs => ?_, fun j k f f' p' n hj hk m m' s3 s4 => ?_⟩
      · cases j with
        | zero =>
          cases hj; cases hs
          exact hent.reflag hm fun hB => ⟨hB, List.not_mem_nil, by rw [if_pos rfl]; exact ⟨List.mem_singleton.mpr rfl, fun z => by rw [show H1 p = none from z] at r2; cases r2⟩⟩
        | succ j => exact Oes.ent j f ov hj hs
      · cases j with
        | succ j => rw [hx.noMine j f hj] at m; cases m
        | zero =>
          cases k with
          | zero => exact n rfl
          | succ k => rw [hx.noMine k f' hk] at m'; cases m'
    · rw [hb]
      intro v B' H' g hv hpost
      rw [hres] at hv
      obtain ⟨_, e1', hv⟩ := hv
      cases e1'
      have hp2 := hpost p (List.mem_singleton.mpr rfl)
      have Bp : B' p = none := (g.nw p _ r2 r6).trans r3
      refine q _ B' H' ⟨O1.g.trans g (fun b hb => ?_), O1.h1.trans g.bb, by rw [List.length_set]; exact O1.len, fun j f ov hj hs => ?_, fun j k f f' q' n hj hk mj mk sj sk => ?_⟩ (s1.trans g.bb) hv
      · rw [List.mem_singleton.mp hb]; exact ⟨r5, r4⟩
      · by_cases z : i = j
        · subst z
          rw [List.getElem?_set_self (lt_get hi)] at hj
          cases hj
          rw [hv0'] at hs; cases hs
          exact hp2.reflag hpm fun _ => ⟨Bp, hfl.2⟩
        · rw [List.getElem?_set_ne z] at hj
          refine (O1.ent j f ov hj hs).keep g.bb fun p2 o2 e1 e2 e3 => ?_
          have n2 : p2 ≠ p := fun y => O1.sep i j e f p z hi hj hm e2 hv0' (by rw [hs, e1, y])
          obtain ⟨q2, _, w1, w2, w3, _, _, w6⟩ := (O1.ent j f ov hj hs).mine_at e2
          rw [e1] at w1; cases w1
          refine ⟨?_, (g.nw p2 _ w2 w6).trans w3⟩
          rcases g.hh p2 o2 (fun y => n2 (List.mem_singleton.mp y)) e3 with y | ⟨_, y, _⟩
          · exact y
          · rw [(g.nw p2 _ w2 w6).trans w3] at y; cases y
      · by_cases zj : i = j
        · subst zj
          rw [List.getElem?_set_ne n] at hk
          exact O1.sep i k e f' q' n hi hk hm mk sj sk
        · rw [List.getElem?_set_ne zj] at hj
          by_cases zk : i = k
          · subst zk
            exact O1.sep j i f e q' n hj hi mj hm sj sk
          · rw [List.getElem?_set_ne zk] at hk
            exact O1.sep j k f f' q' n hj hk mj mk sj sk
end
end TL

namespace TL
open PySem PySem.Spec PyProof.Rows L2
class RD {α : Type} [DecidableEq α] (r : Rp α) where
  d : α → PyData
  dp : ∀ {K : PySem.W.Frag} {B H : Hp} {v : V} {a : α}, Kn B H → r.rel B v a → Dp K H v (d a)
  lay : ∀ a, (d a).canLay0 = true
  dep : Nat
  dle : ∀ a, (d a).depth ≤ dep
  eqv : ∀ a b, PyData.eqv (d a) (d b) = decide (a = b)
theorem dec_beq {α : Type} [BEq α] [LawfulBEq α] [DecidableEq α] (a b : α) : (a == b) = decide (a = b) := by
  rw [Bool.eq_iff_iff, beq_iff_eq, decide_eq_true_eq]
instance : RD TL.rI where
  d := .int
  dp := fun _ h => by cases h; exact .int _
  lay := fun _ => rfl
  dep := 0
  dle := fun _ => Nat.le_refl _
  eqv := fun a b => by simp only [PyData.eqv]; exact dec_beq a b
instance : RD TL.rB where
  d := .bool
  dp := fun _ h => by cases h; exact .bl _
  lay := fun _ => rfl
  dep := 0
  dle := fun _ => Nat.le_refl _
  eqv := fun a b => by simp only [PyData.eqv]; exact dec_beq a b
section
variable {α β : Type} [DecidableEq α] [DecidableEq β] {r : Rp α} {s : Rp β} [RD r] [RD s]
theorem rd_all {K : PySem.W.Frag} {B H : Hp} (k : Kn B H) : ∀ {vs : List V} {l : List α}, Paired (r.rel B) vs l → DpAll K H vs (l.map (RD.d r))
  | _, _, .nil => .nil
  | _, _, .cons h t => .cons (RD.dp k h) (rd_all k t)
theorem rd_lay : ∀ l : List α, PyData.canLayAll0 (l.map (RD.d r)) = true
  | [] => rfl
  | a :: l => by rw [List.map_cons, PyData.canLayAll0, RD.lay a, rd_lay l]; rfl
theorem rd_dep : ∀ l : List α, PyData.depthAll (l.map (RD.d r)) ≤ RD.dep r
  | [] => Nat.zero_le _
  | a :: l => by rw [List.map_cons, PyData.depthAll]; exact Nat.max_le.mpr ⟨RD.dle a, rd_dep l⟩
theorem rd_eqv : ∀ l m : List α, PyData.eqvAll (l.map (RD.d r)) (m.map (RD.d r)) = decide (l = m)
  | [], [] => by simp only [List.map_nil, PyData.eqvAll, decide_true]
  | [], _ :: _ => by simp [PyData.eqvAll]
  | _ :: _, [] => by simp [PyData.eqvAll]
  | x :: xs, y :: ys => by
    rw [List.map_cons, List.map_cons, PyData.eqvAll, RD.eqv x y, rd_eqv xs ys, ← Bool.decide_and]
    exact decide_eq_decide.mpr (by rw [List.cons.injEq])
instance : RD (TL.rT r) where
  d := fun l => .tuple (l.map (RD.d r))
  dp := fun k h => by
    obtain ⟨p, vs, rfl, h2, h3⟩ := h
    exact .tup (SqT.of (k.x h2 rfl)) (rd_all k h3)
  lay := fun l => by simp only [PyData.canLay0]; exact rd_lay l
  dep := RD.dep r + 1
  dle := fun l => by simp only [PyData.depth]; exact Nat.succ_le_succ (rd_dep l)
  eqv := fun a b => by simp only [PyData.eqv]; exact rd_eqv a b
instance : RD (TL.rL r) where
  d := fun l => .list (l.map (RD.d r))
  dp := fun k h => by
    obtain ⟨p, vs, rfl, h2, h3⟩ := h
    exact .lst (SqL.of (k.x h2 rfl)) (rd_all k h3)
  lay := fun l => by simp only [PyData.canLay0]; exact rd_lay l
  dep := RD.dep r + 1
  dle := fun l => by simp only [PyData.depth]; exact Nat.succ_le_succ (rd_dep l)
  eqv := fun a b => by simp only [PyData.eqv]; exact rd_eqv a b
instance : RD (TL.rP r s) where
  d := fun p => .tuple [RD.d r p.1, RD.d s p.2]
  dp := fun k h => by
    obtain ⟨p, x, y, rfl, h2, h3, h4⟩ := h
    exact .tup (SqT.of (k.x h2 rfl)) (.cons (RD.dp k h3) (.cons (RD.dp k h4) .nil))
  lay := fun p => by simp only [PyData.canLay0, PyData.canLayAll0, RD.lay p.1, RD.lay p.2, Bool.and_true]
  dep := max (RD.dep r) (RD.dep s) + 1
  dle := fun p => by
    simp only [PyData.depth, PyData.depthAll]
    exact Nat.succ_le_succ (Nat.max_le.mpr ⟨Nat.le_trans (RD.dle p.1) (Nat.le_max_left _ _), Nat.max_le.mpr ⟨Nat.le_trans (RD.dle p.2) (Nat.le_max_right _ _), Nat.zero_le _⟩⟩)
  eqv := fun p q => by
    simp only [PyData.eqv, PyData.eqvAll]
    rw [RD.eqv, RD.eqv, Bool.and_true, ← Bool.decide_and]
    exact decide_eq_decide.mpr ⟨fun e => Prod.ext e.1 e.2, fun e => by rw [e]; exact ⟨rfl, rfl⟩⟩
theorem rd_shaped (a : α) (h : Nat.ble (RD.dep r) 64 = true) : SeqAt.shaped (RD.d r a) = true := by
  rw [SeqAt.shaped, RD.lay a, Bool.true_and]
  exact decide_eq_true (Nat.le_trans (RD.dle a) (Nat.le_of_ble_eq_true h))
end
class RO {α : Type} [DecidableEq α] (r : Rp α) [RD r] where
  lt : α → α → Bool
  lt_eq : ∀ a b, PySem.W.dataLt (RD.d r a) (RD.d r b) = lt a b
  al : ∀ a b, PySem.W.alike (RD.d r a) (RD.d r b) = true
theorem lt_int (a b : Int) : PySem.W.dataLt (.int a) (.int b) = decide (a < b) := by
  have h := PySem.W.dataLt_ints [a] [b]
  have e1 : PySem.W.rowLt ([a].map PyData.int) ([b].map PyData.int) = if PyData.eqv (.int a) (.int b) = true then PyProof.Rows.lexLt PyProof.Rows.itemOrd (PySem.W.keyToksAll []) (PySem.W.keyToksAll []) else PySem.W.dataLt (.int a) (.int b) :=
    PySem.W.dataLt_cons (show PySem.W.alike (.int a) (.int b) = true by rw [PySem.W.alike]) [] []
  rw [e1] at h
  have hab : PyData.eqv (.int a) (.int b) = decide (a = b) := RD.eqv (r := TL.rI) a b
  rw [hab] at h
  by_cases e : a = b
  · subst e
    have : PySem.W.dataLt (.int a) (.int a) = false := by
      have t := PySem.W.dataLe_int (β := Int) id
      have t2 := congrFun (congrFun t a) a
      rw [PySem.W.dataLe_eq] at t2
      simp only [cond_false, id, decide_eq_true (Int.le_refl a)] at t2
      cases hh : PySem.W.dataLt (.int a) (.int a) with
      | false => rfl
      | true => rw [hh] at t2; cases t2
    rw [this]; simp
  · rw [decide_eq_false e, if_neg Bool.false_ne_true] at h
    rw [h]
    refine decide_eq_decide.mpr ⟨fun q => ?_, fun q => ?_⟩
    · rw [List.cons_lt_cons_iff] at q
      rcases q with q | ⟨q, _⟩
      · exact q
      · exact absurd q e
    · rw [List.cons_lt_cons_iff]; exact .inl q
instance : RO TL.rI where
  lt := fun a b => decide (a < b)
  lt_eq := fun a b => lt_int a b
  al := fun a b => by show PySem.W.alike (.int a) (.int b) = true; rw [PySem.W.alike]
instance : RO (TL.rT TL.rI) where
  lt := fun a b => decide (a < b)
  lt_eq := fun a b => by
    show PyProof.Rows.lexLt PyProof.Rows.itemOrd (PySem.W.keyToks (.tuple (a.map .int))) (PySem.W.keyToks (.tuple (b.map .int))) = _
    have := PySem.W.dataLt_ints a b
    rw [PySem.W.rowLt] at this
    rw [PySem.W.keyToks, PySem.W.keyToks]
    exact this
  al := fun a b => by
    show PySem.W.alike (.tuple (a.map .int)) (.tuple (b.map .int)) = true
    rw [PySem.W.alike]; exact PySem.W.alike_ints a b
instance {α β : Type} [DecidableEq α] [DecidableEq β] {r : Rp α} {s : Rp β} [RD r] [RD s] [RO r] [RO s] : RO (TL.rP r s) where
  lt := fun p q => if p.1 = q.1 then (if p.2 = q.2 then false else RO.lt s p.2 q.2) else RO.lt r p.1 q.1
  lt_eq := fun p q => by
    show PySem.W.dataLt (.tuple [RD.d r p.1, RD.d s p.2]) (.tuple [RD.d r q.1, RD.d s q.2]) = _
    rw [PySem.W.dataLt_pair (RO.al p.1 q.1) (RO.al p.2 q.2), RD.eqv, RD.eqv, RO.lt_eq, RO.lt_eq]
    by_cases e : p.1 = q.1
    · rw [if_pos e, decide_eq_true e, if_pos rfl]
      by_cases e2 : p.2 = q.2
      · rw [if_pos e2, decide_eq_true e2, if_pos rfl]
      · rw [if_neg e2, decide_eq_false e2, if_neg Bool.false_ne_true]
    · rw [if_neg e, decide_eq_false e, if_neg Bool.false_ne_true]
  al := fun p q => by
    show PySem.W.alike (.tuple [RD.d r p.1, RD.d s p.2]) (.tuple [RD.d r q.1, RD.d s q.2]) = true
    rw [PySem.W.alike, PySem.W.alikeAll, PySem.W.alikeAll, PySem.W.alikeAll, RO.al, RO.al]; rfl
end TL

namespace TL
open PySem PySem.Spec PyProof.Rows L2
def eqB {α : Type} [DecidableEq α] (v w : α) : Bool := decide (v = w)
section
variable {X : Cx} {C : C0} {G G' G0 G1 G2 G3 : List Ent} {α β γ : Type} {r : Rp α} {s : Rp β} {a b : Expr} {e : Expr} {es : List Expr} {pos p : Pos} {x : Str} {en : Ent}
theorem x_of {t : TE} (h : PE X e t) (g : Ev C t G G1 en) : XE X C e G G1 en := fun B H σ O Q q => w_pe h (g B H σ O Q q)
theorem t_of {t : TT} {k : Bool} (h : PT X e t) (g : EvT C t G G1 k) : XT X C e G G1 k := fun B H σ O Q q => w_pt h (g B H σ O Q q)
theorem a_of {t : TA} {as : List Arg} (h : PA X es t) (g : EvA C t G G1 as) : XA X C es G G1 as := fun B H σ O Q q => w_pa h (g B H σ O Q q)
theorem x_var (i : Nat) {v : α} (h : G[i]? = some (.dat r v)) (hN : X.N[i]? = some x := by rfl) (hv : Vis X.env.scope x := by first | exact Or.inl rfl | exact Or.inr (Or.inl rfl) | exact Or.inr (Or.inr rfl))
    (hd : (x == ("__debug__" : Str)) = false := by decide) (hcd : (x == ("__classdict__" : Str)) = false := by decide) : XE X C (.Name x pos) G G (.dat r v) := x_of (pe_var hN hv hd hcd) (ev_var h)
theorem x_int {n : Int} {j : Nat} : XE X C (.Constant (.int n) j pos) G G (.dat TL.rI n) := x_of pe_int (ev_c fun _ => rfl)
theorem x_bl {k : Bool} {j : Nat} : XE X C (.Constant (.bool k) j pos) G G (.dat TL.rB k) := x_of pe_bl (ev_c fun _ => rfl)
theorem x_str {z : Str} {j : Nat} : XE X C (.Constant (.str z) j pos) G G (.dat TL.rS z) := x_of pe_str (ev_c fun _ => rfl)
theorem x_non {j : Nat} : XE X C (.Constant .none j pos) G G (.dat TL.rN ()) := x_of pe_non (ev_c fun _ => rfl)
theorem x_globI {n : Int} {t : Tok} (hm : X.mg x = some (.int n t)) (hg : Gl X x := by rfl) (hd : (x == ("__debug__" : Str)) = false := by decide) : XE X C (.Name x pos) G G (.dat TL.rI n) := x_of (pe_glob (v := .int n) hg hm ⟨t, rfl⟩ hd) (ev_c fun _ => rfl)
theorem x_is {v w : α} (h : XE X C e G G1 (.dat r v)) (q : v = w) : XE X C e G G1 (.dat r w) := q ▸ h
theorem x_lst {l : List α} (h : XE X C e G G1 (.own false r l)) : XE X C e G G1 (.dat (rL r) l) := Ev.known h
theorem x_add {i j : Int} (ha : XE X C a G G1 (.dat TL.rI i)) (hb : XE X C b G1 G2 (.dat TL.rI j)) : XE X C (.BinOp a .Add b pos) G G2 (.dat TL.rI (i + j)) := x_of (pe_op op_add (pe_w a) (pe_w b)) (ev_I0 ha hb fun _ => rfl)
theorem x_sub {i j : Int} (ha : XE X C a G G1 (.dat TL.rI i)) (hb : XE X C b G1 G2 (.dat TL.rI j)) : XE X C (.BinOp a .Sub b pos) G G2 (.dat TL.rI (i - j)) := x_of (pe_op op_sub (pe_w a) (pe_w b)) (ev_I0 ha hb fun _ => rfl)
theorem x_mul {i j : Int} (ha : XE X C a G G1 (.dat TL.rI i)) (hb : XE X C b G1 G2 (.dat TL.rI j)) (hc : CMul i j) : XE X C (.BinOp a .Mult b pos) G G2 (.dat TL.rI (i * j)) := x_of (pe_op op_mul (pe_w a) (pe_w b)) (ev_I ha hb hc fun _ => rfl)
theorem x_mod {i j : Int} (ha : XE X C a G G1 (.dat TL.rI i)) (hb : XE X C b G1 G2 (.dat TL.rI j)) (hc : 0 < j) : XE X C (.BinOp a .Mod b pos) G G2 (.dat TL.rI (i % j)) := x_of (pe_op op_mod (pe_w a) (pe_w b)) (ev_I ha hb hc fun _ => rfl)
theorem x_div {i j : Int} (ha : XE X C a G G1 (.dat TL.rI i)) (hb : XE X C b G1 G2 (.dat TL.rI j)) (hc : CDiv i j) : XE X C (.BinOp a .FloorDiv b pos) G G2 (.dat TL.rI (i / j)) := x_of (pe_op op_fdiv (pe_w a) (pe_w b)) (ev_I ha hb hc fun _ => rfl)
theorem x_pow {i j : Int} (ha : XE X C a G G1 (.dat TL.rI i)) (hb : XE X C b G1 G2 (.dat TL.rI j)) (hc : CPow i j) : XE X C (.BinOp a .Pow b pos) G G2 (.dat TL.rI (i ^ j.toNat)) := x_of (pe_op op_pow (pe_w a) (pe_w b)) (ev_I ha hb hc fun _ => rfl)
theorem x_neg {i : Int} (ha : XE X C a G G1 (.dat TL.rI i)) : XE X C (.UnaryOp .USub a pos) G G1 (.dat TL.rI (-i)) := x_of (pe_un un_neg (pe_w a)) (ev_un ha fun B H σ x O hx Q q => ⟨i, hx, q _ _ _ O (Same.refl _) rfl⟩)
theorem dec_V {i j : Int} : decide (V.int i = V.int j) = decide (i = j) := decide_eq_decide.mpr ⟨fun h => V.int.inj h, fun h => by rw [h]⟩
theorem dec_VS {i j : Str} : decide (V.str i = V.str j) = decide (i = j) := decide_eq_decide.mpr ⟨fun h => V.str.inj h, fun h => by rw [h]⟩
theorem x_eq {i j : Int} (ha : XE X C a G G1 (.dat TL.rI i)) (hb : XE X C b G1 G2 (.dat TL.rI j)) : XE X C (.Compare a [.Eq] [b] pos) G G2 (.dat TL.rB (decide (i = j))) := x_of (pe_cmpR op_eq (pe_w a) (pe_w b) (nomark _)) (ev_op ha hb fun B H σ x y O hx hy Q q => by
  cases hx; cases hy; exact ⟨rfl, q _ _ _ O (Same.refl _) (congrArg V.bl dec_V)⟩)
theorem x_ne {i j : Int} (ha : XE X C a G G1 (.dat TL.rI i)) (hb : XE X C b G1 G2 (.dat TL.rI j)) : XE X C (.Compare a [.NotEq] [b] pos) G G2 (.dat TL.rB (!decide (i = j))) := x_of (pe_cmpR op_ne (pe_w a) (pe_w b) (nomark _)) (ev_op ha hb fun B H σ x y O hx hy Q q => by
  cases hx; cases hy; exact ⟨rfl, q _ _ _ O (Same.refl _) (congrArg (fun z => V.bl (!z)) dec_V)⟩)
theorem x_eqS {i j : Str} (ha : XE X C a G G1 (.dat TL.rS i)) (hb : XE X C b G1 G2 (.dat TL.rS j)) : XE X C (.Compare a [.Eq] [b] pos) G G2 (.dat TL.rB (decide (i = j))) := x_of (pe_cmpR op_eq (pe_w a) (pe_w b) (nomark _)) (ev_op ha hb fun B H σ x y O hx hy Q q => by
  cases hx; cases hy; exact ⟨rfl, q _ _ _ O (Same.refl _) (congrArg V.bl dec_VS)⟩)
section
variable [DecidableEq α] [RD r]
theorem x_eqD {v w : α} (hu : X.A.units + 64 < cLine) (ha : XE X C a G G1 (.dat r v)) (hb : XE X C b G1 G2 (.dat r w)) (hd : Nat.ble (RD.dep r) 64 = true := by rfl) : XE X C (.Compare a [.Eq] [b] pos) G G2 (.dat TL.rB (eqB v w)) :=
  x_of (pe_cmpR (op_eqD hu) (pe_w a) (pe_w b) (nomark _)) (ev_op ha hb fun B H σ x y O hx hy Q q => ⟨RD.d r v, RD.d r w, RD.dp O.g.kn hx, RD.dp O.g.kn hy, rd_shaped v hd, rd_shaped w hd, q _ _ _ O (Same.refl _) (congrArg V.bl (RD.eqv v w))⟩)
end
def Rl (C : C0) (te : TE) (G G1 : List Ent) (r : Rp α) (l : List α) : Prop := ∀ B H σ, Ok C G B H σ → ∀ Q : VK,
  (∀ p B' H', Ok C G1 B' H' σ → Same B B' → (∀ B2 H2, Ok C G1 B2 H2 σ → Same B' B2 → ∃ vs, H2 p = some (.lst vs) ∧ Paired (r.rel B2) vs l) → Q (.ref p) H') → te σ H Q
theorem rl_dat {te : TE} {l : List α} (h : Ev C te G G1 (.dat (rL r) l)) : Rl C te G G1 r l := fun B H σ O Q q => h.go O fun v B1 H1 O1 s1 hv => by
  obtain ⟨p, vs, rfl, h2, h3⟩ := hv
  exact q p B1 H1 O1 s1 fun B2 H2 O2 s2 => ⟨vs, O2.g.kn.x (s2 _ _ h2) rfl, paired_mono s2 h3⟩
theorem rl_own {l : List α} {m : Bool} (i : Nat) (h : G[i]? = some (.own m r l)) (hN : X.N[i]? = some x := by rfl) (hv : Vis X.env.scope x := by first | exact Or.inl rfl | exact Or.inr (Or.inl rfl) | exact Or.inr (Or.inr rfl))
    (hd : (x == ("__debug__" : Str)) = false := by decide) (hcd : (x == ("__classdict__" : Str)) = false := by decide) : Rl C (wE X (.Name x pos)) G G r l := fun B H σ O Q q => w_pe (pe_var hN hv hd hcd) (by
  obtain ⟨ov, hs, p, vs, rfl, h2, h3, h4⟩ := O.slot h
  refine ⟨.ref p, hs, q p B H O (Same.refl _) fun B2 H2 O2 s2 => ?_⟩
  obtain ⟨p', vs', e1, e2, _, e4⟩ := O2.ent i _ _ h hs
  cases e1
  exact ⟨vs', e2, e4⟩)
theorem t_lt {i j : Int} (ha : XE X C a G G1 (.dat TL.rI i)) (hb : XE X C b G1 G2 (.dat TL.rI j)) : XT X C (.Compare a [.Lt] [b] pos) G G2 (decide (i < j)) := t_of (pt_cmpR op_lt (pe_w a) (pe_w b) (nomark _)) (et_test (ev_I0 ha hb fun _ => rfl))
theorem t_gt {i j : Int} (ha : XE X C a G G1 (.dat TL.rI i)) (hb : XE X C b G1 G2 (.dat TL.rI j)) : XT X C (.Compare a [.Gt] [b] pos) G G2 (decide (j < i)) := t_of (pt_cmpR op_gt (pe_w a) (pe_w b) (nomark _)) (et_test (ev_I0 ha hb fun _ => rfl))
theorem t_ge {i j : Int} (ha : XE X C a G G1 (.dat TL.rI i)) (hb : XE X C b G1 G2 (.dat TL.rI j)) : XT X C (.Compare a [.GtE] [b] pos) G G2 (decide (j ≤ i)) := t_of (pt_cmpR op_ge (pe_w a) (pe_w b) (nomark _)) (et_test (ev_I0 ha hb fun _ => rfl))
theorem t_eq {i j : Int} (ha : XE X C a G G1 (.dat TL.rI i)) (hb : XE X C b G1 G2 (.dat TL.rI j)) : XT X C (.Compare a [.Eq] [b] pos) G G2 (decide (i = j)) := t_of (pt_cmpR op_eq (pe_w a) (pe_w b) (nomark _)) (et_test (ev_op ha hb fun B H σ x y O hx hy Q q => by
  cases hx; cases hy; exact ⟨rfl, q _ _ _ O (Same.refl _) (congrArg V.bl dec_V)⟩))
theorem t_ne {i j : Int} (ha : XE X C a G G1 (.dat TL.rI i)) (hb : XE X C b G1 G2 (.dat TL.rI j)) : XT X C (.Compare a [.NotEq] [b] pos) G G2 (!decide (i = j)) := t_of (pt_cmpR op_ne (pe_w a) (pe_w b) (nomark _)) (et_test (ev_op ha hb fun B H σ x y O hx hy Q q => by
  cases hx; cases hy; exact ⟨rfl, q _ _ _ O (Same.refl _) (congrArg (fun z => V.bl (!z)) dec_V)⟩))
theorem t_lele {c : Expr} {i j k : Int} (ha : XE X C a G G (.dat TL.rI i)) (hb : XE X C b G G (.dat TL.rI j)) (hc : XE X C c G G (.dat TL.rI k)) (hm : lastMarks [.LtE, .LtE] [b, c] = false := by with_unfolding_all rfl) : XT X C (.Compare a [.LtE, .LtE] [b, c] pos) G G (decide (i ≤ j) && decide (j ≤ k)) :=
  t_of (pt_chain op_le op_le (pe_w a) (pe_w b) (pe_w c) hm) (et_test (ev_chain (p := fun i j => decide (i ≤ j)) (p' := fun i j => decide (i ≤ j)) ha hb hc rfl rfl))
theorem t_eqD [DecidableEq α] [RD r] {v w : α} (hu : X.A.units + 64 < cLine) (ha : XE X C a G G1 (.dat r v)) (hb : XE X C b G1 G2 (.dat r w)) (hd : Nat.ble (RD.dep r) 64 = true := by rfl) : XT X C (.Compare a [.Eq] [b] pos) G G2 (eqB v w) :=
  t_of (pt_cmpR (op_eqD hu) (pe_w a) (pe_w b) (nomark _)) (et_test (ev_op ha hb fun B H σ x y O hx hy Q q => ⟨RD.d r v, RD.d r w, RD.dp O.g.kn hx, RD.dp O.g.kn hy, rd_shaped v hd, rd_shaped w hd, q _ _ _ O (Same.refl _) (congrArg V.bl (RD.eqv v w))⟩))
theorem t_neD [DecidableEq α] [RD r] {v w : α} (hu : X.A.units + 64 < cLine) (ha : XE X C a G G1 (.dat r v)) (hb : XE X C b G1 G2 (.dat r w)) (hd : Nat.ble (RD.dep r) 64 = true := by rfl) : XT X C (.Compare a [.NotEq] [b] pos) G G2 (!eqB v w) :=
  t_of (pt_cmpR (op_neD hu) (pe_w a) (pe_w b) (nomark _)) (et_test (ev_op ha hb fun B H σ x y O hx hy Q q => ⟨RD.d r v, RD.d r w, RD.dp O.g.kn hx, RD.dp O.g.kn hy, rd_shaped v hd, rd_shaped w hd, q _ _ _ O (Same.refl _) (congrArg (fun z => V.bl (!z)) (RD.eqv v w))⟩))
theorem t_v {k : Bool} (h : XE X C e G G1 (.dat TL.rB k)) (he : ∀ whole, isTrue e X.env whole = (do let v ← whole; standAt e.pos; holding [v] (truthy v)) := by intro _; rfl) : XT X C e G G1 k := t_of (pt_val (pe_w e) he) (et_B h)
theorem t_c {op : CmpOp} {k : Bool} {rr : R2} (ho : OpR X (compareOp op) rr) (h : Ev C (tOp rr (wE X a) (wE X b)) G G1 (.dat TL.rB k)) (hm : behindInMarks op b = false) : XT X C (.Compare a [op] [b] pos) G G1 k := t_of (pt_cmpR ho (pe_w a) (pe_w b) hm) (et_test h)
theorem t_not {k : Bool} (h : XT X C e G G1 k) : XT X C (.UnaryOp .Not e pos) G G1 (!k) := t_of (pt_not (pt_w e)) (et_not h)
structure TWW (X : Cx) (e : Expr) (σ : L2.St) (H : Hp) (Q : Bool → Hp → Prop) : Prop where
  go : ∀ (whole : Sem Value) (pins : List (Addr × Obj)) (s : Shared), Inv X pins σ H s → wpAny (model X.prog X.w) X.A (isTrue e X.env whole) (TP X pins σ Q) X.xe s
def wW (X : Cx) (e : Expr) : TT := fun σ H Q => TWW X e σ H Q
theorem pw_w (e : Expr) : PW X e (wW X e) := ⟨fun whole pins s σ H Q I h => h.go whole pins s I⟩
theorem w_pw {t : TT} (h : PW X e t) {σ : L2.St} {H : Hp} {Q : Bool → Hp → Prop} (q : t σ H Q) : wW X e σ H Q := ⟨fun whole pins s I => h.run whole pins s σ H Q I q⟩
abbrev XW (X : Cx) (C : C0) (e : Expr) (G G' : List Ent) (b : Bool) : Prop := EvT C (wW X e) G G' b
theorem w_and1 {k : Bool} (h : XT X C a G G1 k) : XW X C (.BoolOp .And [a] pos) G G1 k := fun B H σ O Q q => w_pw (pw_and1 (pt_w a)) (h B H σ O Q q)
theorem w_or1 {k : Bool} (h : XT X C a G G1 k) : XW X C (.BoolOp .Or [a] pos) G G1 k := fun B H σ O Q q => w_pw (pw_or1 (pt_w a)) (h B H σ O Q q)
theorem w_and {k j : Bool} (h : XT X C a G G1 k) (h2 : k = true → XW X C (.BoolOp .And (b :: es) pos) G1 G1 j) : XW X C (.BoolOp .And (a :: b :: es) pos) G G1 (k && j) := fun B H σ O Q q => w_pw (pw_and (pt_w a) (pw_w _)) (et_and h h2 B H σ O Q q)
theorem w_or {k j : Bool} (h : XT X C a G G1 k) (h2 : k = false → XW X C (.BoolOp .Or (b :: es) pos) G1 G1 j) : XW X C (.BoolOp .Or (a :: b :: es) pos) G G1 (k || j) := fun B H σ O Q q => w_pw (pw_or (pt_w a) (pw_w _)) (et_or h h2 B H σ O Q q)
theorem t_w {k : Bool} (h : XW X C e G G1 k) : XT X C e G G1 k := t_of (PW.pt (pw_w e)) h
theorem x_one {op : BoolOp} {en : Ent} (h : XE X C a G G1 en) : XE X C (.BoolOp op [a] pos) G G1 en := x_of (pe_one (pe_w a)) h
theorem x_and {k j : Bool} (h : XE X C a G G1 (.dat TL.rB k)) (h2 : k = true → XE X C (.BoolOp .And (b :: es) pos) G1 G1 (.dat TL.rB j)) : XE X C (.BoolOp .And (a :: b :: es) pos) G G1 (.dat TL.rB (k && j)) := x_of (pe_and (pe_w a) (pe_w _)) (ev_andV h h2)
theorem x_not {k : Bool} (h : XE X C a G G1 (.dat TL.rB k)) : XE X C (.UnaryOp .Not a pos) G G1 (.dat TL.rB (!k)) := x_of (pe_not (pe_w a)) (ev_notV h)
theorem x_ife {c : Expr} {k : Bool} {v w : α} (hc : XT X C c G G1 k) (h1 : k = true → XE X C a G1 G2 (.dat r v)) (h2 : k = false → XE X C b G1 G2 (.dat r w)) : XE X C (.IfExp c a b pos) G G2 (.dat r (if k = true then v else w)) :=
  x_of (pe_ifExp (pt_w c) (pe_w a) (pe_w b)) (ev_if hc h1 h2)
theorem a_nil : XA X C [] G G [] := a_of pa_nil ea_nil
theorem a_cons {v : α} {as : List Arg} (h : XE X C e G G1 (.dat r v)) (t : XA X C es G1 G2 as) (hs : starEach (e :: es) X.env = (false, eval e X.env) :: starEach es X.env := by rfl) : XA X C (e :: es) G G2 (.d r v :: as) := a_of (pa_cons (pe_w e) (pa_w es) hs) (ea_cons h t)
theorem a_slot (i : Nat) {as : List Arg} {f : Ent} (h : G[i]? = some f) (hf : f.mine = true) (t : XA X C es G G2 as) (hN : X.N[i]? = some x := by rfl) (hv : Vis X.env.scope x := by first | exact Or.inl rfl | exact Or.inr (Or.inl rfl) | exact Or.inr (Or.inr rfl))
    (hs : starEach (.Name x p :: es) X.env = (false, eval (.Name x p) X.env) :: starEach es X.env := by rfl) (hd : (x == ("__debug__" : Str)) = false := by decide) (hcd : (x == ("__classdict__" : Str)) = false := by decide) :
    XA X C (.Name x p :: es) G G2 (.s i :: as) := a_of (pa_cons (pe_var hN hv hd hcd) (pa_w es) hs) (ea_slot h hf t)
theorem x_tupP {k : Nat} {v : α} {w : β} (h : XA X C es G G1 [.d r v, .d s w]) : XE X C (.Tuple es k pos) G G1 (.dat (rP r s) (v, w)) := x_of (pe_tup (pa_w es)) (ev_tupP h)
theorem x_tupP3 {k : Nat} {t : Rp γ} {v : α} {w : β} {z : γ} (h : XA X C es G G1 [.d r v, .d s w, .d t z]) : XE X C (.Tuple es k pos) G G1 (.dat (rP3 r s t) (v, w, z)) := x_of (pe_tup (pa_w es)) (ev_tupP3 h)
theorem x_list {as : List Arg} {l : List α} (h : XA X C es G G1 as) (hx : AllD r as l) (hl : Nat.ble as.length sizeLine = true := by rfl) : XE X C (.List es pos) G G1 (.own false r l) := x_of (pe_lst (pa_w es)) (ev_lst h hx hl)
end
end TL

namespace TL
open PySem PySem.Spec PyProof.Rows L2
def cutL {α : Type} (xs : List α) (lo hi : Option Int) : List α := (xs.drop (HT.sIx xs.length 0 lo)).take (HT.sIx xs.length xs.length hi - HT.sIx xs.length 0 lo)
theorem Paired.drop' {α β : Type} {F : α → β → Prop} : ∀ {l : List α} {m : List β} (n : Nat), Paired F l m → Paired F (l.drop n) (m.drop n)
  | _, _, 0, h => h
  | _, _, _ + 1, .nil => .nil
  | _, _, n + 1, .cons _ t => Paired.drop' n t
theorem Paired.take' {α β : Type} {F : α → β → Prop} : ∀ {l : List α} {m : List β} (n : Nat), Paired F l m → Paired F (l.take n) (m.take n)
  | _, _, 0, _ => .nil
  | _, _, _ + 1, .nil => .nil
  | _, _, n + 1, .cons h t => .cons h (Paired.take' n t)
theorem Paired.app' {α β : Type} {F : α → β → Prop} : ∀ {l l' : List α} {m m' : List β}, Paired F l m → Paired F l' m' → Paired F (l ++ l') (m ++ m')
  | _, _, _, _, .nil, h => h
  | _, _, _, _, .cons h t, h' => .cons h (Paired.app' t h')
theorem Paired.set' {α β : Type} {F : α → β → Prop} {x : α} {y : β} (hx : F x y) : ∀ {l : List α} {m : List β} (n : Nat), Paired F l m → Paired F (l.set n x) (m.set n y)
  | _, _, _, .nil => .nil
  | _, _, 0, .cons h t => .cons hx t
  | _, _, n + 1, .cons h t => .cons h (Paired.set' hx n t)
theorem Paired.cut' {α β : Type} {F : α → β → Prop} {l : List α} {m : List β} {lo hi : Option Int} (h : Paired F l m) : Paired F (cutL l lo hi) (cutL m lo hi) := by
  unfold cutL
  rw [h.length]
  exact Paired.take' _ (Paired.drop' _ h)
theorem Paired.at' {α β : Type} {F : α → β → Prop} {l : List α} {m : List β} {i : Int} {y : β} (h : Paired F l m) (e : atI m i = some y) : ∃ x, atI l i = some x ∧ F x y := by
  unfold atI at e ⊢
  rw [h.length]
  cases q : ixN m.length i with
  | none => rw [q] at e; cases e
  | some j =>
    rw [q] at e
    have : ∀ {l : List α} {m : List β} {j : Nat}, Paired F l m → m[j]? = some y → ∃ x, l[j]? = some x ∧ F x y := by
      intro l m j h
      induction h generalizing j with
      | nil => intro e; cases e
      | cons h t ih =>
        intro e
        cases j with
        | zero => cases e; exact ⟨_, rfl, h⟩
        | succ j => exact ih (j := j) e
    obtain ⟨x, h1, h2⟩ := this h e
    exact ⟨x, h1, h2⟩
section
variable {X : Cx} {C : C0} {G G' G0 G1 G2 G3 : List Ent} {α β γ : Type} {r : Rp α} {s : Rp β} {a b : Expr} {e : Expr} {es : List Expr} {pos p apos cpos : Pos} {x : Str} {en : Ent} {rest : List Stmt} {D : Ends}
theorem x_ixL {l : List α} {i : Int} {v : α} (ha : Rl C (wE X a) G G1 r l) (hb : XE X C b G1 G1 (.dat TL.rI i)) (h : atI l i = some v) (hs : PlainIx b := by exact fun _ _ => rfl) : XE X C (.Subscript a b pos) G G1 (.dat r v) :=
  x_of (pe_ix ix_list (pe_w a) (pe_w b) hs) (Ev.mk fun B H σ O Q q => ha B H σ O _ fun pp B1 H1 O1 s1 hp => hb.go O1 fun y B2 H2 O2 s2 hy => by
    obtain ⟨vs, h1, h2⟩ := hp B2 H2 O2 s2
    obtain ⟨v', h3, h4⟩ := Paired.at' h2 h
    exact ⟨pp, vs, i, v', rfl, hy, SqL.of h1, h3, q _ _ _ O2 (s1.trans s2) h4⟩)
theorem x_t0 {t : Rp γ} {v : α × β × γ} {j : Nat} (ha : XE X C a G G1 (.dat (rP3 r s t) v)) : XE X C (.Subscript a (.Constant (.int 0) j p) pos) G G1 (.dat r v.1) :=
  x_of (pe_ix ix_tup (pe_w a) (pe_w _) (fun _ _ => rfl)) (ev_op ha x_int fun B H σ x y O hx hy Q q => by
    obtain ⟨pp, x, y, z, rfl, h2, h3, h4, h5⟩ := hx
    exact ⟨pp, [x, y, z], 0, x, rfl, hy, SqT.of (O.g.kn.x h2 rfl), rfl, q _ _ _ O (Same.refl _) h3⟩)
theorem x_t1 {t : Rp γ} {v : α × β × γ} {j : Nat} (ha : XE X C a G G1 (.dat (rP3 r s t) v)) : XE X C (.Subscript a (.Constant (.int 1) j p) pos) G G1 (.dat s v.2.1) :=
  x_of (pe_ix ix_tup (pe_w a) (pe_w _) (fun _ _ => rfl)) (ev_op ha x_int fun B H σ x y O hx hy Q q => by
    obtain ⟨pp, x, y, z, rfl, h2, h3, h4, h5⟩ := hx
    exact ⟨pp, [x, y, z], 1, y, rfl, hy, SqT.of (O.g.kn.x h2 rfl), rfl, q _ _ _ O (Same.refl _) h4⟩)
theorem x_t2 {t : Rp γ} {v : α × β × γ} {j : Nat} (ha : XE X C a G G1 (.dat (rP3 r s t) v)) : XE X C (.Subscript a (.Constant (.int 2) j p) pos) G G1 (.dat t v.2.2) :=
  x_of (pe_ix ix_tup (pe_w a) (pe_w _) (fun _ _ => rfl)) (ev_op ha x_int fun B H σ x y O hx hy Q q => by
    obtain ⟨pp, x, y, z, rfl, h2, h3, h4, h5⟩ := hx
    exact ⟨pp, [x, y, z], 2, z, rfl, hy, SqT.of (O.g.kn.x h2 rfl), rfl, q _ _ _ O (Same.refl _) h5⟩)
theorem o_none : XO X C none G G none := fun B H σ O Q q => w_po po_none (q _ _ O (Same.refl _))
theorem o_some {i : Int} (h : XE X C e G G1 (.dat TL.rI i)) : XO X C (some e) G G1 (some i) := fun B H σ O Q q => w_po (po_some (pe_w e)) (h.go O fun v B1 H1 O1 s1 hv => ⟨i, hv, q _ _ O1 s1⟩)
theorem x_slL {lo hi : Option Expr} {l : List α} {i j : Option Int} (ha : Rl C (wE X a) G G1 r l) (hl : XO X C lo G1 G1 i) (hh : XO X C hi G1 G1 j) : XE X C (.Subscript a (.Slice lo hi none p) pos) G G1 (.own false r (cutL l i j)) :=
  x_of (pe_slice sl_list (pe_w a) (po_w lo) (po_w hi)) fun B H σ O Q q => ha B H σ O _ fun pp B1 H1 O1 s1 hp => hl B1 H1 σ O1 _ fun B2 H2 O2 s2 => hh B2 H2 σ O2 _ fun B3 H3 O3 s3 => by
    obtain ⟨vs, h1, h2⟩ := hp B3 H3 O3 (s2.trans s3)
    refine ⟨pp, vs, rfl, SqL.of h1, fun p' np => ?_⟩
    obtain ⟨O4, m1, m2, _⟩ := O3.made (o := .lst (cutV vs i j)) np (Nat.le_trans (cutV_length vs i j) (O3.g.sm pp _ h1))
    exact q _ _ _ O4 ((s1.trans s2).trans s3) ⟨p', _, rfl, upd_same, m1, Paired.cut' h2⟩ fun _ p' e => by cases e; exact m2
theorem x_catL {l m : List α} (ha : Rl C (wE X a) G G1 r l) (hb : Rl C (wE X b) G1 G1 r m) (hz : l.length + m.length ≤ sizeLine) : XE X C (.BinOp a .Add b pos) G G1 (.own false r (l ++ m)) :=
  x_of (pe_op op_cat (pe_w a) (pe_w b)) fun B H σ O Q q => ha B H σ O _ fun p1 B1 H1 O1 s1 hp => hb B1 H1 σ O1 _ fun p2 B2 H2 O2 s2 hp2 => by
    obtain ⟨vs, h1, h2⟩ := hp B2 H2 O2 s2
    obtain ⟨ws, k1, k2⟩ := hp2 B2 H2 O2 (Same.refl _)
    refine ⟨p1, p2, vs, ws, rfl, rfl, h1, k1, by rw [h2.length, k2.length]; exact hz, fun p' np => ?_⟩
    obtain ⟨O4, m1, m2, _⟩ := O2.made (o := .lst (vs ++ ws)) np (by show (vs ++ ws).length ≤ sizeLine; rw [List.length_append, h2.length, k2.length]; exact hz)
    exact q _ _ _ O4 (s1.trans s2) ⟨p', _, rfl, upd_same, m1, Paired.app' h2 k2⟩ fun _ p' e => by cases e; exact m2
theorem ev_cb1 {rr : List V → Hp → VK → Prop} {te : TE} {v : α} {w : β} (h : Ev C te G G1 (.dat r v)) (hr : ∀ B H σ x, Ok C G1 B H σ → r.rel B x v → ∀ Q : VK, (∀ y B' H', Ok C G1 B' H' σ → Same B B' → s.rel B' y w → Q y H') → rr [x] H Q) :
    Ev C (tCB rr (tCons te tNil)) G G1 (.dat s w) := Ev.mk fun B H σ O Q q => h.go O fun v B1 H1 O1 s1 hv => hr B1 H1 σ v O1 hv Q fun y B2 H2 O2 s2 hy => q y B2 H2 O2 (s1.trans s2) hy
theorem ev_cbL {rr : List V → Hp → VK → Prop} {te : TE} {l : List α} {w : β} (h : Rl C te G G1 r l) (hr : ∀ B H pp vs, Kn B H → H pp = some (.lst vs) → Paired (r.rel B) vs l → ∀ Q : VK, (∀ y, s.rel B y w → Q y H) → rr [.ref pp] H Q) :
    Ev C (tCB rr (tCons te tNil)) G G1 (.dat s w) := Ev.mk fun B H σ O Q q => h B H σ O _ fun pp B1 H1 O1 s1 hp => by
  obtain ⟨vs, h1, h2⟩ := hp B1 H1 O1 (Same.refl _)
  exact hr B1 H1 pp vs O1.g.kn h1 h2 Q fun y hy => q y B1 H1 O1 s1 hy
theorem ev_cbLL {rr : List V → Hp → VK → Prop} {te : TE} {l : List α} {w : List β} (h : Rl C te G G1 r l) (hw' : w.length ≤ l.length) (hr : ∀ B H pp vs, Kn B H → H pp = some (.lst vs) → Paired (r.rel B) vs l → ∀ Q : VK, (∀ p' ws, H p' = none → Paired (s.rel B) ws w → Q (.ref p') (upd H p' (.lst ws))) → rr [.ref pp] H Q) :
    Ev C (tCB rr (tCons te tNil)) G G1 (.own false s w) := fun B H σ O Q q => h B H σ O _ fun pp B1 H1 O1 s1 hp => by
  obtain ⟨vs, h1, h2⟩ := hp B1 H1 O1 (Same.refl _)
  refine hr B1 H1 pp vs O1.g.kn h1 h2 Q fun p' ws np hw => ?_
  obtain ⟨O4, m1, m2, _⟩ := O1.made (o := .lst ws) np (by show ws.length ≤ sizeLine; rw [hw.length]; exact Nat.le_trans hw' (by rw [← h2.length]; exact O1.g.sm pp _ h1))
  exact q _ _ _ O4 s1 ⟨p', _, rfl, upd_same, m1, hw⟩ fun _ p' e => by cases e; exact m2
theorem x_len {l : List α} (hm : X.mg "len" = none) (h : Rl C (wE X a) G G1 r l) (hg : Gl X "len" := by rfl) (he : starEach [a] X.env = (false, eval a X.env) :: starEach [] X.env := by rfl) : XE X C (.Call (.Name "len" p) [a] [] pos) G G1 (.dat TL.rI (l.length : Int)) :=
  x_of (pe_callB call_len_seq hg hm PySem.boot_len (pa_cons (pe_w a) pa_nil he) (he := he)) (ev_cbL (s := TL.rI) h fun B H pp vs kn h1 h2 Q q => ⟨pp, vs, rfl, .inl (SqL.of h1), by rw [h2.length]; exact q _ rfl⟩)
theorem x_lenScr {l : List Int} (hm : X.mg "len" = none) (h : XE X C a G G1 (.dat (rScr X.K) l)) (hg : Gl X "len" := by rfl) (he : starEach [a] X.env = (false, eval a X.env) :: starEach [] X.env := by rfl) : XE X C (.Call (.Name "len" p) [a] [] pos) G G1 (.dat TL.rI (l.length : Int)) :=
  x_of (pe_callB call_len_seq hg hm PySem.boot_len (pa_cons (pe_w a) pa_nil he) (he := he)) (ev_cb1 (s := TL.rI) h fun B H σ x O hx Q q => by
    obtain ⟨pp, rfl, h2⟩ := hx
    refine ⟨pp, l.map V.int, rfl, .inl ?_, by rw [List.length_map]; exact q _ _ _ O (Same.refl _) rfl⟩
    rcases h2 with (h2 | ⟨o, h2⟩) | h2
    · exact .inl (O.g.kn.rd h2)
    · exact .inl (.inr ⟨o, O.g.kn.x h2 rfl⟩)
    · exact .inr h2)
theorem x_ixScr {l : List Int} {i v : Int} (ha : XE X C a G G1 (.dat (rScr X.K) l)) (hb : XE X C b G1 G2 (.dat TL.rI i)) (h : atI l i = some v) (hs : PlainIx b := by exact fun _ _ => rfl) : XE X C (.Subscript a b pos) G G2 (.dat TL.rI v) :=
  x_of (pe_ix ix_list (pe_w a) (pe_w b) hs) (ev_op ha hb fun B H σ x y O hx hy Q q => by
    obtain ⟨pp, rfl, h2⟩ := hx
    refine ⟨pp, l.map V.int, i, .int v, rfl, hy, ?_, ?_, q _ _ _ O (Same.refl _) rfl⟩
    · rcases h2 with (h2 | ⟨o, h2⟩) | h2
      · exact .inl (O.g.kn.rd h2)
      · exact .inl (.inr ⟨o, O.g.kn.x h2 rfl⟩)
      · exact .inr h2
    · unfold atI at h ⊢
      rw [List.length_map]
      cases q : ixN l.length i with
      | none => rw [q] at h; cases h
      | some j => rw [q] at h; show (l.map V.int)[j]? = _; rw [List.getElem?_map, show l[j]? = some v from h]; rfl)
theorem x_listL {l : List α} (hm : X.mg "list" = none) (h : Rl C (wE X a) G G1 r l) (hg : Gl X "list" := by rfl) (he : starEach [a] X.env = (false, eval a X.env) :: starEach [] X.env := by rfl) : XE X C (.Call (.Name "list" p) [a] [] pos) G G1 (.own false r l) :=
  x_of (pe_callTy call_list_of hg hm (by decide +kernel) (pa_cons (pe_w a) pa_nil he) (he := he)) (ev_cbLL h (Nat.le_refl _) fun B H pp vs kn h1 h2 Q q => ⟨pp, vs, rfl, .inl (SqL.of h1), fun p' np => q p' vs np h2⟩)
theorem paired_bls {B : Hp} : ∀ {vs : List V} {l : List Bool}, Paired (TL.rB.rel B) vs l → vs = l.map V.bl
  | _, _, .nil => rfl
  | _, _, .cons h t => by rw [List.map_cons, paired_bls t, show _ = V.bl _ from h]
theorem x_all {l : List Bool} (hm : X.mg "all" = none) (h : Rl C (wE X a) G G1 TL.rB l) (hc : X.calm = true := by rfl) (hg : Gl X "all" := by rfl) (he : starEach [a] X.env = (false, eval a X.env) :: starEach [] X.env := by rfl) : XE X C (.Call (.Name "all" p) [a] [] pos) G G1 (.dat TL.rB (l.all id)) :=
  x_of (pe_callB (cr_all hc) hg hm (by decide +kernel) (pa_cons (pe_w a) pa_nil he) (he := he)) (ev_cbL (s := TL.rB) h fun B H pp vs kn h1 h2 Q q => ⟨pp, l, rfl, by rw [← paired_bls h2]; exact SqL.of h1, q _ rfl⟩)
theorem x_any {l : List Bool} (hm : X.mg "any" = none) (h : Rl C (wE X a) G G1 TL.rB l) (hc : X.calm = true := by rfl) (hg : Gl X "any" := by rfl) (he : starEach [a] X.env = (false, eval a X.env) :: starEach [] X.env := by rfl) : XE X C (.Call (.Name "any" p) [a] [] pos) G G1 (.dat TL.rB (l.any id)) :=
  x_of (pe_callB (cr_any hc) hg hm (by decide +kernel) (pa_cons (pe_w a) pa_nil he) (he := he)) (ev_cbL (s := TL.rB) h fun B H pp vs kn h1 h2 Q q => ⟨pp, l, rfl, by rw [← paired_bls h2]; exact SqL.of h1, q _ rfl⟩)
structure Callee (P : Program) (w : World) (K : PySem.W.Frag) (mg : Str → Option Value) (base : Heap) (CX : CXT) (name : Str) (ps : List Str) (sp : Sp) (k : Nat) : Prop where
  ex : ∃ (f : Addr) (fd : FuncData), FnOk P w K mg base CX k f fd ps sp ∧ mg name = some (.ref f) ∧ PySem.W.keepIn K (.ref f) = true ∧ Binds K fd ps []
theorem x_call {ι : Type} {F : FS ι} {ps : List Str} {k : Nat} {as : List Arg} (c : Callee X.prog X.w X.K X.mg X.base CX0 x ps F.sp k) (hr : Room k X.A) (y : ι) (ha : XA X C (e :: es) G G1 as) (fit : FitD as (F.args y)) (hres : F.res y = en) (hb : F.bad y = none := by rfl) (hg : Gl X x := by rfl)
    (hdb : (x == ("__debug__" : Str)) = false := by decide) (he : starEach (e :: es) X.env = (false, eval e X.env) :: starEach es X.env := by rfl) (hpl : (backTo pos (starEach es X.env)).any (·.1) = false := by rfl) : XE X C (.Call (.Name x p) (e :: es) [] pos) G G1 en := by
  obtain ⟨f, fd, h1, h2, h3, h4⟩ := c.ex
  exact x_of (pe_call (dvs := []) h1 hr hg h2 h3 h4 .nil pass0 (pa_w _) hdb he hpl) (ev_call y ha fit hres hb)
theorem x_callO {ι : Type} {F : FS ι} {ps : List Str} {k i : Nat} {as : List Arg} {e0 : Ent} {es0 : List Ent} {v : α} (c : Callee X.prog X.w X.K X.mg X.base CX0 x ps F.sp k) (hr : Room k X.A) (y : ι) (ha : XA X C (e :: es) G G1 (.s i :: as)) (hi : G1[i]? = some e0) (hm : e0.mine = true)
    (hx1 : F.args y = e0.flag true :: es0) (hx : FitD as es0) (hres : F.res y = .dat r v) (hpm : (F.post y).mine = true := by rfl) (hb : F.bad y = none := by rfl) (hg : Gl X x := by rfl)
    (hdb : (x == ("__debug__" : Str)) = false := by decide) (he : starEach (e :: es) X.env = (false, eval e X.env) :: starEach es X.env := by rfl) (hpl : (backTo pos (starEach es X.env)).any (·.1) = false := by rfl) :
    XE X C (.Call (.Name x p) (e :: es) [] pos) G (G1.set i ((F.post y).flag e0.fl)) (.dat r v) := by
  obtain ⟨f, fd, h1, h2, h3, h4⟩ := c.ex
  exact x_of (pe_call (dvs := []) h1 hr hg h2 h3 h4 .nil pass0 (pa_w _) hdb he hpl) (ev_callO y ha hi hm hx1 hx hres hpm hb)
theorem own_at {G : List Ent} {B H : Hp} {σ : L2.St} {i : Nat} {m : Bool} {l : List α} (O : Ok C G B H σ) (h : G[i]? = some (.own m r l)) : ∃ pp vs, σ[i]? = some (some (.ref pp)) ∧ H pp = some (.lst vs) ∧ Paired (r.rel B) vs l ∧ Mine C B m pp := by
  obtain ⟨ov, hs, pp, vs, rfl, h2, h3, h4⟩ := O.slot h
  exact ⟨pp, vs, hs, h2, h4, h3⟩
theorem own_set {G : List Ent} {B H : Hp} {σ : L2.St} {i : Nat} {m : Bool} {l l' : List α} {pp : Addr} {vs : List V} (O : Ok C G B H σ) (h : G[i]? = some (.own m r l)) (hs : σ[i]? = some (some (.ref pp))) (hm : Mine C B m pp) (hp : Paired (r.rel B) vs l') (hsm : vs.length ≤ sizeLine) : Ok C (G.set i (.own m r l')) B (upd H pp (.lst vs)) σ :=
  O.change (e' := .own m r l') h rfl rfl hs hsm ⟨pp, vs, rfl, upd_same, hm, hp⟩
theorem x_append (i : Nat) {m : Bool} {l : List α} {v : α} (hb : XE X C b G G1 (.dat r v)) (h0 : G[i]? = some (.own m r l)) {m' : Bool} {l' : List α} (h : G1[i]? = some (.own m' r l')) (hz : l'.length < sizeLine) (hN : X.N[i]? = some x := by rfl) (hv : Vis X.env.scope x := by first | exact Or.inl rfl | exact Or.inr (Or.inl rfl) | exact Or.inr (Or.inr rfl))
    (hd : (x == ("__debug__" : Str)) = false := by decide) (hcd : (x == ("__classdict__" : Str)) = false := by decide)
    (hbase : attributeBase (.Name x p) "append" X.env (eval (.Name x p) X.env) = eval (.Name x p) X.env := by rfl)
    (hfew : ((backTo cpos (starEach [b] X.env)).all (fun x => !x.1) && (backToKw cpos (keywordEach [] X.env)).all (fun x => x.1.isSome) && decide (([b] : List Expr).length + ([] : List Keyword).length + (if ([] : List Keyword).isEmpty then 0 else 1) < 30)) = true := by rfl)
    (hline : (apos.endLine == cpos.line) = true := by rfl) (hs : starEach [b] X.env = (false, eval b X.env) :: starEach [] X.env := by rfl) (hplain : (backTo cpos (starEach [] X.env)).any (·.1) = false := by rfl) :
    XE X C (.Call (.Attribute (.Name x p) "append" apos) [b] [] cpos) G (G1.set i (.own m' r (l' ++ [v]))) (.dat TL.rN ()) :=
  x_of (pe_bm PySem.F.plainAttrs_list PySem.F.slot_list_append PySem.F.type_list_append mt_append (pe_var hN hv hd hcd) (pa_cons (pe_w b) pa_nil hs) hbase hfew hline hs hplain) (Ev.mk fun B H σ O Q q => by
    obtain ⟨pp, vs, e1, e2, e3, e4⟩ := own_at O h0
    refine ⟨.ref pp, e1, .inl ⟨rfl, vs, SqL.of e2⟩, hb.go O fun y B1 H1 O1 s1 hy => ?_⟩
    obtain ⟨pp', ws, k1, k2, k3, k4⟩ := own_at O1 h
    rw [e1] at k1; cases k1
    exact ⟨pp, ws, y, rfl, rfl, k2, by rw [k3.length]; exact hz, q _ _ _ (own_set O1 h e1 k4 (k3.snoc hy) (by rw [List.length_append, k3.length]; exact hz)) s1 rfl⟩)
theorem gs_setL (i : Nat) {m m' : Bool} {l l' : List α} {j : Int} {k : Nat} {v : α} (he : XE X C e G G1 (.dat r v)) (hb : XE X C b G1 G2 (.dat TL.rI j)) (h1 : G1[i]? = some (.own m r l)) (h : G2[i]? = some (.own m' r l')) (hk : ixN l'.length j = some k) (kk : GS X C (G2.set i (.own m' r (l'.set k v))) rest D)
    (hN : X.N[i]? = some x := by rfl) (hv : Vis X.env.scope x := by first | exact Or.inl rfl | exact Or.inr (Or.inl rfl) | exact Or.inr (Or.inr rfl)) (hd : (x == ("__debug__" : Str)) = false := by decide) (hcd : (x == ("__classdict__" : Str)) = false := by decide)
    (hs : swapsWithSole [.Subscript (.Name x p) b apos] e pos.line X.env = pure false := by rfl) (hw : swappedStores [.Subscript (.Name x p) b apos] e X.env = pure none := by rfl)
    (h11 : (assignEach [.Subscript (.Name x p) b apos] X.env).map (·.2) = [assign (.Subscript (.Name x p) b apos) X.env] := by rfl)
    (ha : ∀ v, assign (.Subscript (.Name x p) b apos) X.env v = (do
      let ov ← holding [v] (eval (.Name x p) X.env)
      let iv ← holding [v, ov] (eval b X.env)
      standAt apos
      holding [v, ov, iv] (setItem ov iv v)
      release [v, ov, iv] []) := by intro _; rfl) : GS X C G (.Assign [.Subscript (.Name x p) b apos] e pos :: rest) D :=
  fun B H σ O => w_ps (ps_asg (pe_w e) (pg_sub (pe_var hN hv hd hcd) (pe_w b) set_list ha) hs hw h11) (he.go O fun y B1 H1 O1 s1 hy => by
    obtain ⟨pp, vs, e1, e2, e3, e4⟩ := own_at O1 h1
    refine ⟨.ref pp, e1, hb.go O1 fun z B2 H2 O2 s2 hz => ?_⟩
    obtain ⟨pp', ws, k1, k2, k3, k4⟩ := own_at O2 h
    rw [e1] at k1; cases k1
    exact ⟨pp, ws, j, k, rfl, hz, k2, by rw [k3.length]; exact hk, kk _ _ _ (own_set O2 h e1 k4 (Paired.set' (r.mono s2 hy) k k3) (by rw [List.length_set]; exact O2.g.sm pp _ k2))⟩)
end
end TL

namespace TL
open PySem PySem.Spec PyProof.Rows L2
theorem ifp {α : Sort u} {c : Bool} {a b : α} (h : c = true) : (if c = true then a else b) = a := if_pos h
theorem ifn {α : Sort u} {c : Bool} {a b : α} (h : c = false) : (if c = true then a else b) = b := if_neg (by rw [h]; exact Bool.false_ne_true)
section
variable {X : Cx} {C : C0} {G G' G0 G1 G2 G3 Gs0 : List Ent} {α β γ S : Type} {r : Rp α} {s : Rp β} {a b : Expr} {e it elt c : Expr} {es : List Expr} {pos p apos cpos : Pos} {x y : Str} {en : Ent} {rest body : List Stmt} {D : Ends} {as : List α} {wi : TI} {own : List (Str × Nat)} {scope : Scope}
def getA {α : Type} [Inhabited α] (l : List α) (i : Int) : α := (atI l i).getD default
theorem getA_at {α : Type} [Inhabited α] {l : List α} {i : Int} (h0 : 0 ≤ i) (h1 : i < l.length) : atI l i = some (getA l i) := by
  unfold getA
  obtain ⟨j, rfl⟩ := Int.eq_ofNat_of_zero_le h0
  rw [show atI l (j : Int) = some l[j] from atI_nat (List.getElem?_eq_getElem (by omega))]
  rfl
theorem getA_last {α : Type} [Inhabited α] {l : List α} (h : l ≠ []) : atI l (-1) = some (getA l (-1)) := by
  unfold getA
  obtain ⟨m, x, rfl⟩ : ∃ m x, l = m ++ [x] := ⟨l.dropLast, l.getLast h, (List.dropLast_concat_getLast h).symm⟩
  rw [atI_last]; rfl
theorem getA_nat {α : Type} [Inhabited α] {l : List α} {j : Nat} (h : j < l.length) : getA l (j : Int) = l[j] := by
  unfold getA; rw [show atI l (j : Int) = some l[j] from atI_nat (List.getElem?_eq_getElem h)]; rfl
theorem mem_rng2 {a b k : Int} (h : k ∈ rng2 a b) : a ≤ k ∧ k < b := by
  unfold rng2 at h
  obtain ⟨i, hi, rfl⟩ := List.mem_map.mp h
  rw [List.mem_range] at hi
  omega
theorem mem_rng {b k : Int} (h : k ∈ rng b) : 0 ≤ k ∧ k < b := by
  unfold rng at h
  obtain ⟨i, hi, rfl⟩ := List.mem_map.mp h
  rw [List.mem_range] at hi
  omega

theorem x_own {X : Cx} {C : C0} {G : List Ent} {x : Str} {pos : Pos} {α : Type} {r : Rp α} (i : Nat) {m : Bool} {l : List α} (h : G[i]? = some (.own m r l)) (hN : X.N[i]? = some x := by rfl) (hv : Vis X.env.scope x := by first | exact Or.inl rfl | exact Or.inr (Or.inl rfl) | exact Or.inr (Or.inr rfl))
    (hd : (x == ("__debug__" : Str)) = false := by decide) (hcd : (x == ("__classdict__" : Str)) = false := by decide) : XE X C (.Name x pos) G (G.set i .any) (.own m r l) := x_of (pe_var hN hv hd hcd) fun B H σ O Q q => by
  obtain ⟨ov, hs, p, vs, rfl, h2, h3, h4⟩ := O.slot h
  have O1 := O.forget i (some (.ref p))
  have hlt : i < σ.length := by rw [O.len]; exact lt_get h
  have es : σ.set i (some (.ref p)) = σ := by
    refine List.ext_getElem? fun j => ?_
    by_cases q : i = j
    · subst q; rw [List.getElem?_set_self hlt, hs]
    · rw [List.getElem?_set_ne q]
  rw [es] at O1
  refine ⟨.ref p, hs, q _ B H O1 (Same.refl _) ⟨p, vs, rfl, h2, h3, h4⟩ fun _ p' e j f hj hm hsj => ?_⟩
  cases e
  by_cases q : i = j
  · subst q; rw [List.getElem?_set_self (lt_get h)] at hj; cases hj; cases hm
  · rw [List.getElem?_set_ne q] at hj
    exact O.sep i j _ f p q h hj rfl hm hs hsj
theorem gs_G {X : Cx} {C : C0} {G G' : List Ent} {sts : List Stmt} {D : Ends} (h : G = G') (k : GS X C G' sts D) : GS X C G sts D := h ▸ k
theorem x_isO {X : Cx} {C : C0} {G G1 : List Ent} {e : Expr} {α : Type} {r : Rp α} {m : Bool} {l l' : List α} (h : XE X C e G G1 (.own m r l)) (q : l = l') : XE X C e G G1 (.own m r l') := q ▸ h
structure Wk (X : Cx) (C : C0) (tg it : Expr) (G G' : List Ent) (r : Rp α) (as : List α) where
  wi : TI
  pi : PI X tg it wi
  src : Src C wi G G' r as
  fs : ∀ x, foldedSetIterable it X.env x = pure x
def k_list {tg : Expr} (h : XE X C it G G1 (.dat (rL r) as)) (fs : ∀ x, foldedSetIterable it X.env x = pure x := by intro _; rfl) : Wk X C tg it G G1 r as := ⟨_, pi_list (pe_w it), src_list h, fs⟩
def k_rng1 {tg : Expr} {n : Int} (hm : X.mg "range" = none) (h : XA X C [a] G G1 [.d TL.rI n]) (h2 : n ≤ 16777216) (h1 : -(2 ^ 62) ≤ n := by omega) (hg : Gl X "range" := by rfl) (hs : starEach [a] X.env = [(false, eval a X.env)] := by rfl)
    (fs : ∀ x, foldedSetIterable (.Call (.Name "range" p) [a] [] pos) X.env x = pure x := by intro _; rfl) : Wk X C tg (.Call (.Name "range" p) [a] [] pos) G G1 TL.rI (rng n) := ⟨_, pi_range1 hg hm (pa_w _) hs, src_rng1 h h2 h1, fs⟩
def k_rng2 {tg : Expr} {n m : Int} (hm : X.mg "range" = none) (h : XA X C [a, b] G G1 [.d TL.rI n, .d TL.rI m]) (h1 : 0 ≤ n ∧ n ≤ 16777216 ∧ -(2 ^ 62) ≤ m ∧ m ≤ 16777216) (hg : Gl X "range" := by rfl)
    (hs : starEach [a, b] X.env = [(false, eval a X.env), (false, eval b X.env)] := by rfl) (hs2 : starEach [b] X.env = [(false, eval b X.env)] := by rfl)
    (fs : ∀ x, foldedSetIterable (.Call (.Name "range" p) [a, b] [] pos) X.env x = pure x := by intro _; rfl) : Wk X C tg (.Call (.Name "range" p) [a, b] [] pos) G G1 TL.rI (rng2 n m) := ⟨_, pi_range2 hg hm (pa_w _) hs hs2, src_rng2 h h1, fs⟩
def k_zip {ets : List Expr} {k : Nat} {tp : Pos} {bs : List β} (hm : X.mg "zip" = none) (h : XA X C [a, b] G G1 [.d (rL r) as, .d (rL s) bs]) (hg : Gl X "zip" := by rfl) (hs : starEach [a, b] X.env = (false, eval a X.env) :: starEach [b] X.env := by rfl) (hpl : (backTo pos (starEach [b] X.env)).any (·.1) = false := by rfl)
    (fs : ∀ x, foldedSetIterable (.Call (.Name "zip" p) [a, b] [] pos) X.env x = pure x := by intro _; rfl) : Wk X C (.Tuple ets k tp) (.Call (.Name "zip" p) [a, b] [] pos) G G1 (rP r s) (as.zip bs) := ⟨_, pi_zip hg hm (pa_w _) hs hpl, src_zip h, fs⟩
theorem pe_b (s : Shared) (H : Hp) (c0 : Addr) (cl : List (Str × Addr)) (fp : List Addr) : PE (X.blk s H scope (compEnvC scope cl c0 X.env) fp) elt (bE X scope elt) := ⟨fun pins s' σ H' Q I h => (h s H c0 cl fp).go pins s' I⟩
theorem pt_b (s : Shared) (H : Hp) (c0 : Addr) (cl : List (Str × Addr)) (fp : List Addr) : PT (X.blk s H scope (compEnvC scope cl c0 X.env) fp) c (bT X scope c) := ⟨fun pins s' σ H' Q I h => (h s H c0 cl fp).go pins s' I⟩
theorem x_lc0 {n : Str} {tp : Pos} {f : α → β} (j : Nat) (w : Wk X C (.Name n tp) it G G0 r as) (no : NoOwn G0 [j]) (he : ∀ (C1 : C0) (v : α), v ∈ as → ∀ s0 H0 c0 cl fp, XE (Cx.bl X scope s0 H0 c0 cl fp) C1 elt (G0.set j (.dat r v)) (G0.set j (.dat r v)) (.dat s (f v)))
    (hN : X.N.Nodup) (ok : BlkOk X.N X.env.scope scope [(n, j)]) (hg : ∀ (s : Shared) (H : Hp) (c0 : Addr) (cl : List (Str × Addr)) (fp : List Addr), PG (X.blk s H scope (compEnvC scope cl c0 X.env) fp) (.Name n tp) (gName j)) (hc : X.calm = true := by rfl) :
    XE X C (.ListComp elt [⟨.Name n tp, it, [], 0⟩] scope pos) G G0 (.own false s (as.map f)) := by
  have h := ev_lc (C := C) (vs := [j]) (tt := tYes) (te := bE X scope elt) (g := gName j) (s := s) w.src (fun _ => true) f no fun C1 v hv => ⟨_, tgc_name, fun B H σ O Q q => q B H O (Same.refl _), fun k hk => List.getElem?_set_ne (fun z => hk (by rw [← z]; exact List.mem_singleton.mpr rfl)), fun _ => bE_of (he C1 v hv)⟩
  rw [show as.filter (fun _ => true) = as from List.filter_eq_self.mpr fun _ _ => rfl] at h
  exact x_of (pe_lc (own := [(n, j)]) hc hN w.pi ok hg (fun _ _ _ _ _ => pts_nil) pe_b w.fs) h
theorem x_lc1 {n : Str} {tp : Pos} {f : α → β} {q : α → Bool} (j : Nat) (w : Wk X C (.Name n tp) it G G0 r as) (no : NoOwn G0 [j]) (ht : ∀ (C1 : C0) (v : α), v ∈ as → ∀ s0 H0 c0 cl fp, XT (Cx.bl X scope s0 H0 c0 cl fp) C1 c (G0.set j (.dat r v)) (G0.set j (.dat r v)) (q v))
    (he : ∀ (C1 : C0) (v : α), v ∈ as → q v = true → ∀ s0 H0 c0 cl fp, XE (Cx.bl X scope s0 H0 c0 cl fp) C1 elt (G0.set j (.dat r v)) (G0.set j (.dat r v)) (.dat s (f v)))
    (hN : X.N.Nodup) (ok : BlkOk X.N X.env.scope scope [(n, j)]) (hg : ∀ (s : Shared) (H : Hp) (c0 : Addr) (cl : List (Str × Addr)) (fp : List Addr), PG (X.blk s H scope (compEnvC scope cl c0 X.env) fp) (.Name n tp) (gName j)) (hc : X.calm = true := by rfl) :
    XE X C (.ListComp elt [⟨.Name n tp, it, [c], 0⟩] scope pos) G G0 (.own false s ((as.filter q).map f)) := by
  have h := ev_lc (C := C) (vs := [j]) (tt := bT X scope c) (te := bE X scope elt) (g := gName j) (s := s) w.src q f no fun C1 v hv => ⟨_, tgc_name, bT_of (ht C1 v hv), fun k hk => List.getElem?_set_ne (fun z => hk (by rw [← z]; exact List.mem_singleton.mpr rfl)), fun hq => bE_of (he C1 v hv hq)⟩
  exact x_of (pe_lc (own := [(n, j)]) hc hN w.pi ok hg (fun _ _ _ _ _ => pts_one (pt_b _ _ _ _ _)) pe_b w.fs) h
theorem gs_lc0 {n : Str} {tp py spos : Pos} {f : α → β} {i : Nat} (j : Nat) (w : Wk X C (.Name n tp) it G G0 r as) (no : NoOwn G0 [j]) (he : ∀ (C1 : C0) (v : α), v ∈ as → ∀ s0 H0 c0 cl fp, XE (Cx.bl X scope s0 H0 c0 cl fp) C1 elt (G0.set j (.dat r v)) (G0.set j (.dat r v)) (.dat s (f v)))
    {en' : Ent} (hen : ∀ {te : TE}, Ev C te G G0 (.own false s (as.map f)) → Ev C te G G0 en') (k : GS X C (G0.set i en') rest D)
    (hN : X.N.Nodup) (ok : BlkOk X.N X.env.scope scope [(n, j)]) (hg : ∀ (s : Shared) (H : Hp) (c0 : Addr) (cl : List (Str × Addr)) (fp : List Addr), PG (X.blk s H scope (compEnvC scope cl c0 X.env) fp) (.Name n tp) (gName j)) (hy : X.N[i]? = some y) (hyl : X.env.scope.names.lookup y = some .local) (hsw : swapsWith (.ListComp elt [⟨.Name n tp, it, [], 0⟩] scope pos) (some (.Name y py)) spos.line X.env = pure true)
    (hc : X.calm = true := by rfl) :
    GS X C G (.Assign [.Name y py] (.ListComp elt [⟨.Name n tp, it, [], 0⟩] scope pos) spos :: rest) D := by
  have h := ev_lc (C := C) (vs := [j]) (tt := tYes) (te := bE X scope elt) (g := gName j) (s := s) w.src (fun _ => true) f no fun C1 v hv => ⟨_, tgc_name, fun B H σ O Q q => q B H O (Same.refl _), fun k hk => List.getElem?_set_ne (fun z => hk (by rw [← z]; exact List.mem_singleton.mpr rfl)), fun _ => bE_of (he C1 v hv)⟩
  rw [show as.filter (fun _ => true) = as from List.filter_eq_self.mpr fun _ _ => rfl] at h
  exact fun B H σ O => w_ps (ps_setLc (own := [(n, j)]) hc hN hy hyl hsw w.pi ok hg (fun _ _ _ _ _ => pts_nil) pe_b w.fs) (hen h B H σ O _ fun v B' H' O' s hv ha => k B' H' _ (O'.store hv ha))
theorem gs_for1 {n : Str} {tp : Pos} (j : Nat) (w : Wk X C (.Name n tp) it G G0 r as) (Gs : S → List Ent) (s0 : S) (f : S → α → S) (h0 : Le G0 (Gs s0))
    (hs : ∀ (B1 : Hp) (i : Nat) (v : α) (z : S), as[i]? = some v → z = (as.take i).foldl f s0 → GS X (C.hold B1) ((Gs z).set j (.dat r v)) body { D with nx := Reach (C.hold B1) (Gs (f z v)), ct := Reach (C.hold B1) (Gs (f z v)), bk := wSs X rest D })
    (k : GS X C (Gs (as.foldl f s0)) rest D) (hN : X.N.Nodup) (hj : X.N[j]? = some n) (hx : Loc X.env.scope n) (hp : PassesOwn (model X.prog X.w) X.A X.env X.xe := by exact PassesOwn.never) (hc : X.calm = true := by rfl)
    (hf : X.fn n = true ∨ X.env.scope.names.lookup n = some .local := by first | exact .inl rfl | exact .inr rfl) : GS X C G (.For (.Name n tp) it body [] pos :: rest) D :=
  gs_forF hp hc w.pi (pg_name hN hj hx hf) w.src Gs s0 f h0 (fun B1 i v z h1 h2 => ⟨_, tg_name, hs B1 i v z h1 h2⟩) k w.fs
theorem gs_endB {Gs : S → List Ent} {z z' : S} {bk : L2.St → Hp → Prop} (h : z' = z) (l : Le G (Gs z)) : GS X C G [] { D with nx := Reach C (Gs z'), ct := Reach C (Gs z'), bk := bk } := by
  subst h
  exact fun B H σ O => ⟨fun pins s I => pss_nil.run pins s σ H _ I ⟨B, O.le l⟩⟩
end
end TL

namespace TL
open PySem PySem.Spec PyProof.Rows L2
section
variable {κ α : Type} [DecidableEq κ]
def dget (d : List (κ × α)) (k : κ) : Option α := (d.find? fun kv => decide (kv.1 = k)).map (·.2)
def dput (d : List (κ × α)) (k : κ) (v : α) : List (κ × α) := if (d.any fun kv => decide (kv.1 = k)) = true then d.map (fun kv => if kv.1 = k then (kv.1, v) else kv) else d ++ [(k, v)]
abbrev DR {κ' : Type} (f : κ → κ') (r : Rp α) (B : Hp) (kvs : List (κ' × V)) (d : List (κ × α)) : Prop := Paired (fun p q => p.1 = f q.1 ∧ r.rel B p.2 q.2) kvs d
theorem DR.any {κ' : Type} [DecidableEq κ'] {f : κ → κ'} (hf : ∀ a b, f a = f b → a = b) {r : Rp α} {B : Hp} (k : κ) : ∀ {kvs : List (κ' × V)} {d : List (κ × α)}, DR f r B kvs d → (kvs.any fun kv => decide (kv.1 = f k)) = d.any fun kv => decide (kv.1 = k)
  | _, _, .nil => rfl
  | _, _, .cons h t => by
    rw [List.any_cons, List.any_cons, DR.any hf k t, h.1]
    congr 1
    exact decide_eq_decide.mpr ⟨hf _ _, fun e => by rw [e]⟩
theorem DR.get {κ' : Type} [DecidableEq κ'] {f : κ → κ'} (hf : ∀ a b, f a = f b → a = b) {r : Rp α} {B : Hp} (k : κ) : ∀ {kvs : List (κ' × V)} {d : List (κ × α)}, DR f r B kvs d → (∀ a, dget d k = some a → ∃ v, valV kvs (f k) = some v ∧ r.rel B v a) ∧ (dget d k = none → valV kvs (f k) = none)
  | _, _, .nil => ⟨fun a h => (by cases h), fun _ => rfl⟩
  | _, _, .cons (a := p) (b := q) (l₁ := kvs) (l₂ := d) h t => by
    obtain ⟨i1, i2⟩ := DR.get hf k t
    by_cases e : q.1 = k
    · have e1 : dget (q :: d) k = some q.2 := by
        unfold dget; simp [List.find?_cons, e]
      have e2 : valV (p :: kvs) (f k) = some p.2 := valV_pos (by rw [h.1, e])
      rw [e1, e2]
      exact ⟨fun a ha => ⟨p.2, rfl, by cases ha; exact h.2⟩, fun z => by cases z⟩
    · have e1 : dget (q :: d) k = dget d k := by
        unfold dget; simp [List.find?_cons, e]
      have e2 : valV (p :: kvs) (f k) = valV kvs (f k) := valV_neg (fun z => e (hf _ _ (by rw [← h.1]; exact z)))
      rw [e1, e2]
      exact ⟨i1, i2⟩
theorem DR.map {κ' : Type} [DecidableEq κ'] {f : κ → κ'} (hf : ∀ a b, f a = f b → a = b) {r : Rp α} {B : Hp} (k : κ) {x : V} {v : α} (hx : r.rel B x v) : ∀ {kvs : List (κ' × V)} {d : List (κ × α)}, DR f r B kvs d →
    DR f r B (kvs.map fun kv => if kv.1 = f k then (kv.1, x) else kv) (d.map fun kv => if kv.1 = k then (kv.1, v) else kv)
  | _, _, .nil => .nil
  | _, _, .cons (a := p) (b := q) h t => by
    rw [List.map_cons, List.map_cons]
    refine .cons ?_ (DR.map hf k hx t)
    by_cases e : q.1 = k
    · rw [if_pos e, if_pos (by rw [h.1, e])]; exact ⟨h.1, hx⟩
    · rw [if_neg e, if_neg (fun z => e (hf _ _ (by rw [← h.1]; exact z)))]; exact h
theorem DR.put {κ' : Type} [DecidableEq κ'] {f : κ → κ'} (hf : ∀ a b, f a = f b → a = b) {r : Rp α} {B : Hp} (k : κ) {x : V} {v : α} (hx : r.rel B x v) {kvs : List (κ' × V)} {d : List (κ × α)} (h : DR f r B kvs d) : DR f r B (putK kvs (f k) x) (dput d k v) := by
  unfold putK dput
  rw [DR.any hf k h]
  split
  · exact DR.map hf k hx h
  · exact h.snoc ⟨rfl, hx⟩
theorem DR.isSome {κ' : Type} [DecidableEq κ'] {f : κ → κ'} (hf : ∀ a b, f a = f b → a = b) {r : Rp α} {B : Hp} (k : κ) {kvs : List (κ' × V)} {d : List (κ × α)} (h : DR f r B kvs d) : (valV kvs (f k)).isSome = (dget d k).isSome := by
  obtain ⟨h1, h2⟩ := DR.get hf k h
  cases e : dget d k with
  | none => rw [h2 e]; rfl
  | some a => obtain ⟨v, e2, _⟩ := h1 a e; rw [e2]; rfl
end
theorem tk_inj (a b : List Int) (h : tk a = tk b) : a = b := (List.map_inj_right fun x y e => Sum.inl.inj e).mp h
theorem inl_inj (a b : Int) (h : (Sum.inl a : Key) = Sum.inl b) : a = b := Sum.inl.inj h
section
variable {X : Cx} {C : C0} {G G' G0 G1 G2 G3 : List Ent} {α β γ : Type} {r : Rp α} {s : Rp β} {a b c : Expr} {e : Expr} {es : List Expr} {pos p apos cpos : Pos} {x : Str} {en : Ent} {rest : List Stmt} {D : Ends}
end
end TL

namespace TL
open PySem PySem.Spec PyProof.Rows L2
theorem hu65_of {A : Around} {k : Nat} {env : Env} (hr : Room k (A.deeper env)) : (A.deeper env).units + 65 < cLine := by have := hr.un; omega
theorem hu64_of {A : Around} {k : Nat} {env : Env} (hr : Room k (A.deeper env)) : (A.deeper env).units + 64 < cLine := by have := hr.un; omega
theorem hu1_of {A : Around} {k : Nat} {env : Env} (hr : Room k (A.deeper env)) : (A.deeper env).units + 1 < cLine := by have := hr.un; omega
theorem Ev.ownIs {C : C0} {te : TE} {G G1 : List Ent} {α : Type} {r : Rp α} {m : Bool} {l l' : List α} (h : Ev C te G G1 (.own m r l)) (q : l = l') : Ev C te G G1 (.own m r l') := q ▸ h
theorem gs_endJ {X : Cx} {C : C0} {G : List Ent} {D : Ends} {S : Type} {Gs : S → List Ent} {z z' : S} (h : z' = z) (l : Le G (Gs z)) : GS X C G [] { D with nx := Reach C (Gs z') } := by
  subst h
  exact fun B H σ O => ⟨fun pins s I => pss_nil.run pins s σ H _ I ⟨B, O.le l⟩⟩
structure DefAt (K : PySem.W.Frag) (mg : Str → Option Value) (name : Str) (st : Stmt) (ps : List Str) : Prop where
  ex : ∃ (f : Addr) (fd : FuncData), Fun K name name st f fd ∧ mg name = some (.ref f) ∧ L2.Binds K fd ps []
theorem posted_is {G : List Ent} {po : Ent} {α : Type} {r : Rp α} {l : List α} (k : Nat) (h : G[k]? = some (.own true r l)) (e : po = .own true r l) : Posted G po := e ▸ posted_own k h
structure Bx where
  a : Int
  f : Int
  ok : (f = 0 ∧ 0 ≤ a) ∨ (f = 1 ∧ 0 ≤ a ∧ a < 2147483648)
section
variable {X : Cx} {C : C0} {G G' G0 G1 G2 G3 : List Ent} {α β γ : Type} {r : Rp α} {s : Rp β} {a b c : Expr} {e : Expr} {es : List Expr} {pos p apos cpos : Pos} {x : Str} {en : Ent} {rest : List Stmt} {D : Ends}
end
end TL

namespace TL
open PySem PySem.Spec PyProof.Rows L2
section
variable {X : Cx} {C : C0} {G G' G0 G1 G2 G3 : List Ent} {α β γ S : Type} {r : Rp α} {s : Rp β} {a b c : Expr} {e it elt : Expr} {es : List Expr} {pos p p2 apos cpos : Pos} {x : Str} {en : Ent} {rest : List Stmt} {D : Ends} {as : List α} {scope : Scope}
theorem x_ixD {l : List α} {i : Int} {v : α} (ha : XE X C a G G1 (.dat (rL r) l)) (hb : XE X C b G1 G2 (.dat TL.rI i)) (h : atI l i = some v) (hs : PlainIx b := by exact fun _ _ => rfl) : XE X C (.Subscript a b pos) G G2 (.dat r v) :=
  x_of (pe_ix ix_list (pe_w a) (pe_w b) hs) (ev_op ha hb fun B H σ x y O hx hy Q q => by
    obtain ⟨pp, vs, rfl, h2, h3⟩ := hx
    obtain ⟨v', h4, h5⟩ := Paired.at' h3 h
    exact ⟨pp, vs, i, v', rfl, hy, SqL.of (O.g.kn.x h2 rfl), h4, q _ _ _ O (Same.refl _) h5⟩)
theorem x_lcS0 {n : Str} {tp : Pos} (j : Nat) (w : Wk X C (.Name n tp) it G G0 r as) (Gs : S → List Ent) (z0 : S) (f : S → α → S × β) (h0 : Le G0 (Gs z0)) (hG : ∀ z, (Gs z).length = (Gs z0).length) (hv : ∀ z, (Gs z)[j]? = (Gs z0)[j]?) (no : NoOwn (Gs z0) [j])
    (he : ∀ (C1 : C0) (i : Nat) (v : α) (z : S), as[i]? = some v → ∀ s0 H0 c0 cl fp, XE (Cx.bl X scope s0 H0 c0 cl fp) C1 elt ((Gs z).set j (.dat r v)) ((Gs (f z v).1).set j (.dat r v)) (.dat s (f z v).2))
    (hN : X.N.Nodup) (ok : BlkOk X.N X.env.scope scope [(n, j)]) (hg : ∀ (s : Shared) (H : Hp) (c0 : Addr) (cl : List (Str × Addr)) (fp : List Addr), PG (X.blk s H scope (compEnvC scope cl c0 X.env) fp) (.Name n tp) (gName j)) (hc : X.calm = true := by rfl) :
    XE X C (.ListComp elt [⟨.Name n tp, it, [], 0⟩] scope pos) G (Gs (as.foldl (lcStep (fun _ _ => true) f) (z0, [])).1) (.own false s (as.foldl (lcStep (fun _ _ => true) f) (z0, [])).2) := by
  have h := ev_lcS (C := C) (vs := [j]) (tt := tYes) (te := bE X scope elt) (g := gName j) (s := s) w.src Gs z0 h0 (fun _ _ => true) f hG (fun z v hv' => by rw [List.mem_singleton.mp hv']; exact hv z) no fun C1 i v z hi hz => ⟨_, tgc_name, fun B H σ O Q q => q B H O (Same.refl _), fun k hk => List.getElem?_set_ne (fun z => hk (by rw [← z]; exact List.mem_singleton.mpr rfl)), fun _ => ⟨_, bE_of (he C1 i v z hi), fun k hk => List.getElem?_set_ne (fun z => hk (by rw [← z]; exact List.mem_singleton.mpr rfl))⟩⟩
  exact x_of (pe_lc (own := [(n, j)]) hc hN w.pi ok hg (fun _ _ _ _ _ => pts_nil) pe_b w.fs) h
def mapS (f : S → α → S × β) : S → List α → S × List β
  | z, [] => (z, [])
  | z, a :: l => ((mapS f (f z a).1 l).1, (f z a).2 :: (mapS f (f z a).1 l).2)
theorem lcS_map (f : S → α → S × β) : ∀ (l : List α) (z : S) (acc : List β), l.foldl (lcStep (fun _ _ => true) f) (z, acc) = ((mapS f z l).1, acc ++ (mapS f z l).2)
  | [], z, acc => by rw [List.foldl_nil, mapS, List.append_nil]
  | a :: l, z, acc => by
    rw [List.foldl_cons, show lcStep (fun _ _ => true) f (z, acc) a = ((f z a).1, acc ++ [(f z a).2]) from by rw [lcStep, if_pos rfl], lcS_map f l, mapS, List.append_assoc]; rfl
end
end TL

namespace TL
open PySem PySem.Spec PyProof.Rows L2 RT
section
variable {prog : Program} {w : World} {A : Around} {E : Value → Shared → Prop} {s : Shared}
end
section
variable {X : Cx}
end
section
variable {X : Cx} {C : C0} {G G' G0 G1 G2 G3 : List Ent} {α β γ S : Type} {r : Rp α} {s : Rp β} {a b c : Expr} {e it elt : Expr} {es : List Expr} {pos p p2 apos cpos : Pos} {x : Str} {en : Ent} {rest : List Stmt} {D : Ends} {as : List α} {scope : Scope}
end
end TL

namespace TL
open PySem PySem.Spec PyProof.Rows L2
def loopR {ρ S α : Type} (f : S → α → ρ ⊕ S) : S → List α → ρ ⊕ S
  | z, [] => .inr z
  | z, a :: l => match f z a with
    | .inl r => .inl r
    | .inr z' => loopR f z' l
def outR {ρ S : Type} (x : ρ ⊕ S) (k : S → ρ) : ρ := match x with
  | .inl r => r
  | .inr z => k z
theorem loopR_snoc {ρ S α : Type} {f : S → α → ρ ⊕ S} : ∀ {l : List α} {z z1 : S} (a : α), loopR f z l = .inr z1 → loopR f z (l ++ [a]) = f z1 a
  | [], z, z1, a, h => by
    cases h
    rw [List.nil_append, loopR]
    cases e : f z a with
    | inl r => rfl
    | inr z' => rfl
  | b :: l, z, z1, a, h => by
    rw [List.cons_append, loopR]
    rw [loopR] at h
    cases e : f z b with
    | inl r => rw [e] at h; cases h
    | inr z' => rw [e] at h; exact loopR_snoc a h
theorem loopR_left {ρ S α : Type} {f : S → α → ρ ⊕ S} {r : ρ} : ∀ {l m : List α} {z : S}, loopR f z l = .inl r → loopR f z (l ++ m) = .inl r
  | [], m, z, h => by cases h
  | b :: l, m, z, h => by
    rw [List.cons_append, loopR]
    rw [loopR] at h
    cases e : f z b with
    | inl r => rw [e] at h; exact h
    | inr z' => rw [e] at h; exact loopR_left h
theorem outR_ret {ρ S α : Type} {f : S → α → ρ ⊕ S} {z z1 : S} {l : List α} {i : Nat} {a : α} {r : ρ} {k : S → ρ} (hz : loopR f z (l.take i) = .inr z1) (hi : l[i]? = some a) (h : f z1 a = .inl r) : outR (loopR f z l) k = r := by
  have h2 : loopR f z (l.take (i + 1)) = .inl r := by rw [List.take_add_one, hi]; exact (loopR_snoc a hz).trans h
  have h3 := loopR_left (m := l.drop (i + 1)) h2
  rw [List.take_append_drop] at h3
  rw [h3]; rfl
theorem outR_end {ρ S : Type} {x : ρ ⊕ S} {z : S} {k : S → ρ} (h : x = .inr z) : outR x k = k z := by rw [h]; rfl
theorem lt_of_get {α : Type} {l : List α} {i : Nat} {a : α} (h : l[i]? = some a) : i < l.length := (List.getElem?_eq_some_iff.mp h).1
theorem cutL_length {α : Type} {l : List α} {i j : Option Int} : (cutL l i j).length ≤ l.length := by
  unfold cutL
  rw [List.length_take, List.length_drop]; omega
theorem mem_cutL {α : Type} {l : List α} {i j : Option Int} {x : α} (h : x ∈ cutL l i j) : x ∈ l := by
  unfold cutL at h
  exact List.mem_of_mem_drop (List.mem_of_mem_take h)
section
variable {X : Cx} {C : C0} {G G' G0 G1 G2 G3 : List Ent} {α β γ S ρ : Type} {r : Rp α} {s : Rp β} {a b c : Expr} {e it elt : Expr} {es : List Expr} {body : List Stmt} {pos p p2 apos cpos : Pos} {x : Str} {en : Ent} {rest : List Stmt} {D : Ends} {as : List α} {scope : Scope}
theorem loopW (Gs : S → List Ent) (s0 : S) (f : S → α → ρ ⊕ S) : (fun i Gi => ∃ z, loopR f s0 (as.take i) = .inr z ∧ Gi = Gs z) 0 (Gs s0) := ⟨s0, by rw [List.take_zero]; rfl, rfl⟩
theorem gs_forR {wi : TI} {tg : Expr} {g : TG} (hp : PassesOwn (model X.prog X.w) X.A X.env X.xe) (hc : X.calm = true) (hi : PI X tg it wi) (hg : PG X tg g) (src : Src C wi G G0 r as) (Gs : S → List Ent) (s0 : S) (f : S → α → ρ ⊕ S) (h0 : Le G0 (Gs s0))
    (hs : ∀ (B1 : Hp) (i : Nat) (a : α) (s : S), as[i]? = some a → loopR f s0 (as.take i) = .inr s → ∃ Gt, Tg (C.hold B1) g r a (Gs s) Gt ∧ GS X (C.hold B1) Gt body { D with nx := fun σ H => ∃ z', f s a = .inr z' ∧ Reach (C.hold B1) (Gs z') σ H, ct := fun σ H => ∃ z', f s a = .inr z' ∧ Reach (C.hold B1) (Gs z') σ H, bk := wSs X rest D })
    (k : ∀ z, loopR f s0 as = .inr z → GS X C (Gs z) rest D) (hfs : ∀ x, foldedSetIterable it X.env x = pure x := by intro _; rfl) : GS X C G (.For tg it body [] pos :: rest) D := by
  refine gs_forW hp hc hi hg (fun i Gi => ∃ z, loopR f s0 (as.take i) = .inr z ∧ Gi = Gs z) (src.le h0) (loopW Gs s0 f) (fun B1 i a Gi e hGi => ?_) (fun Gn hGn => ?_) hfs
  · obtain ⟨z, hz, rfl⟩ := hGi
    obtain ⟨Gt, t1, t2⟩ := hs B1 i a z e hz
    have st : ∀ z', f z a = .inr z' → loopR f s0 (as.take (i + 1)) = .inr z' := fun z' h => by
      rw [List.take_add_one, e]; exact (loopR_snoc a hz).trans h
    exact ⟨Gt, t1, gs_mono t2 (fun σ H ⟨z', h1, h2⟩ => ⟨_, ⟨z', st z' h1, rfl⟩, h2⟩) (fun _ _ h => h) (fun σ H ⟨z', h1, h2⟩ => ⟨_, ⟨z', st z' h1, rfl⟩, h2⟩) fun _ _ h => h⟩
  · obtain ⟨z, hz, rfl⟩ := hGn
    rw [List.take_length] at hz
    exact k z hz
theorem gs_forR1 {n : Str} {tp : Pos} (j : Nat) (w : Wk X C (.Name n tp) it G G0 r as) (Gs : S → List Ent) (s0 : S) (f : S → α → ρ ⊕ S) (h0 : Le G0 (Gs s0))
    (hs : ∀ (B1 : Hp) (i : Nat) (v : α) (z : S), as[i]? = some v → loopR f s0 (as.take i) = .inr z → GS X (C.hold B1) ((Gs z).set j (.dat r v)) body { D with nx := fun σ H => ∃ z', f z v = .inr z' ∧ Reach (C.hold B1) (Gs z') σ H, ct := fun σ H => ∃ z', f z v = .inr z' ∧ Reach (C.hold B1) (Gs z') σ H, bk := wSs X rest D })
    (k : ∀ z, loopR f s0 as = .inr z → GS X C (Gs z) rest D) (hN : X.N.Nodup) (hj : X.N[j]? = some n) (hx : Loc X.env.scope n) (hp : PassesOwn (model X.prog X.w) X.A X.env X.xe := by exact PassesOwn.never) (hc : X.calm = true := by rfl)
    (hf : X.fn n = true ∨ X.env.scope.names.lookup n = some .local := by first | exact .inl rfl | exact .inr rfl) : GS X C G (.For (.Name n tp) it body [] pos :: rest) D :=
  gs_forR hp hc w.pi (pg_name hN hj hx hf) w.src Gs s0 f h0 (fun B1 i v z h1 h2 => ⟨_, tg_name, hs B1 i v z h1 h2⟩) k w.fs
theorem gs_endR {f : S → α → ρ ⊕ S} {z z' : S} {v : α} {Gs : S → List Ent} {ct bk : L2.St → Hp → Prop} (h : f z v = .inr z') (l : Le G (Gs z')) : GS X C G [] { D with nx := fun σ H => ∃ z', f z v = .inr z' ∧ Reach C (Gs z') σ H, ct := ct, bk := bk } :=
  fun B H σ O => ⟨fun pins s I => pss_nil.run pins s σ H _ I ⟨z', h, B, O.le l⟩⟩
end
end TL

namespace TL
open PySem PySem.Spec PyProof.Rows L2
theorem loopR_all {ρ α : Type} {f : Unit → α → ρ ⊕ Unit} : ∀ {l : List α}, loopR f () l = .inr () → ∀ a ∈ l, f () a = .inr ()
  | [], _, a, h => absurd h List.not_mem_nil
  | b :: l, h, a, ha => by
    rw [loopR] at h
    cases e : f () b with
    | inl r => rw [e] at h; cases h
    | inr z => 
      rw [e] at h
      rcases List.mem_cons.mp ha with rfl | ha
      · exact e
      · exact loopR_all h a ha
theorem loopR_of_all {ρ α : Type} {f : Unit → α → ρ ⊕ Unit} : ∀ {l : List α}, (∀ a ∈ l, f () a = .inr ()) → loopR f () l = .inr ()
  | [], _ => rfl
  | b :: l, h => by
    rw [loopR, h b List.mem_cons_self]
    exact loopR_of_all fun a ha => h a (List.mem_cons_of_mem _ ha)
theorem getA_get {α : Type} [Inhabited α] {l : List α} {j : Nat} (h : j < l.length) : getA l (j : Int) = l[j] := by
  have e := getA_at (l := l) (i := (j : Int)) (by omega) (by omega)
  rw [atI_nat (List.getElem?_eq_getElem h)] at e
  exact (Option.some.inj e).symm
theorem getA_mem {α : Type} [Inhabited α] {l : List α} {i : Int} (h0 : 0 ≤ i) (h1 : i < l.length) : getA l i ∈ l := by
  obtain ⟨j, rfl⟩ := Int.eq_ofNat_of_zero_le h0
  have hj : j < l.length := by omega
  rw [getA_get hj]
  exact List.getElem_mem hj
theorem rng_length {n : Int} : (rng n).length = n.toNat := by unfold rng; rw [List.length_map, List.length_range]
theorem rng2_length {a b : Int} : (rng2 a b).length = (b - a).toNat := by unfold rng2; rw [List.length_map, List.length_range]
theorem all_id_map {α : Type} {f : α → Bool} {l : List α} : (l.map f).all id = true ↔ ∀ x ∈ l, f x = true := by
  rw [List.all_eq_true]
  constructor
  · intro h x hx
    exact h _ (List.mem_map.mpr ⟨x, hx, rfl⟩)
  · intro h y hy
    obtain ⟨x, hx, rfl⟩ := List.mem_map.mp hy
    exact h x hx
section
variable {X : Cx} {C : C0} {G G' G0 G1 G2 G3 : List Ent} {α β γ S ρ : Type} {r : Rp α} {s : Rp β} {a b c : Expr} {e it elt : Expr} {es : List Expr} {body : List Stmt} {pos p p2 apos cpos : Pos} {x : Str} {en : Ent} {rest : List Stmt} {D : Ends} {as : List α} {scope : Scope}
theorem x_isG {en : Ent} (G2 : List Ent) (en2 : Ent) (h : XE X C e G G1 en) (q : G1 = G2) (q2 : en = en2) : XE X C e G G2 en2 := by subst q q2; exact h
end
end TL

namespace TL
open PySem PySem.Spec PyProof.Rows L2
section
variable {C : C0} {G G' G0 G1 G2 : List Ent} {ι : Type} {F : FS ι} {ta : TA} {as : List Arg} {E : XK}
theorem ev_callOE (x : ι) {i : Nat} {e en : Ent} {es : List Ent} (ha : EvA C ta G G1 (.s i :: as)) (hi : G1[i]? = some e) (hm : e.mine = true) (hx1 : F.args x = e.flag true :: es) (hx : FitD as es) (hres : F.res x = en) (hf : en.fl = false)
    (hpm : (F.post x).mine = true := by rfl) (hb : F.bad x = none := by rfl) : Ev C (tCall F.sp [] E ta) G (G1.set i ((F.post x).flag e.fl)) en := fun B H σ O Q q => ha B H σ O _ fun vs B1 H1 O1 s1 hvs => by
  rw [List.append_nil]
  cases hvs with
  | cons hv0 hvs =>
    rename_i v0 vs
    have hv0' : σ[i]? = some (some v0) := hv0
    have hent := O1.ent i e _ hi hv0'
    obtain ⟨p, o, r1, r2, r3, r4, r5, r6⟩ := hent.mine_at hm
    cases r1
    have hfl : Mine C B1 e.fl p := by
      cases e with
      | any => cases hm
      | dat r a => cases hm
      | tld F a => cases hm
      | own m r l => obtain ⟨q', _, e1', _, e3', _⟩ := hent; cases e1'; exact e3'
      | ownT m r l => obtain ⟨q', _, e1', _, e3', _⟩ := hent; cases e1'; exact e3'
      | ownK m r l => obtain ⟨q', _, e1', _, e3', _⟩ := hent; cases e1'; exact e3'
      | ownX m l => obtain ⟨q', _, e1', _, e3', _⟩ := hent; cases e1'; exact e3'
    have g0 : Grow [p] [] B1 H1 B1 H1 := Grow.refl O1.g.kn (fun b hb => by rw [List.mem_singleton.mp hb]; exact ⟨r3, _, r2, r6⟩) O1.g.sm
    have Oes := FitD.ok (C := C00 B1 H1 [p]) (σ := σ) g0 (fun _ _ h => by cases h) hx hvs
    refine ⟨x, B1, [p], ?_, fun a ha b hb => by rw [List.mem_singleton.mp ha, List.mem_singleton.mp hb], ?_⟩
    · rw [hx1]
      refine ⟨g0, fun _ _ h => (by cases h), by rw [List.map_cons, List.length_cons, List.length_cons, Oes.len], fun j f ov hj hs => ?_, fun j k f f' p' n hj hk m m' s3 s4 => ?_⟩
      · cases j with
        | zero =>
          cases hj; cases hs
          exact hent.reflag hm fun hB => ⟨hB, List.not_mem_nil, by rw [if_pos rfl]; exact ⟨List.mem_singleton.mpr rfl, fun z => by rw [show H1 p = none from z] at r2; cases r2⟩⟩
        | succ j => exact Oes.ent j f ov hj hs
      · cases j with
        | succ j => rw [hx.noMine j f hj] at m; cases m
        | zero =>
          cases k with
          | zero => exact n rfl
          | succ k => rw [hx.noMine k f' hk] at m'; cases m'
    · rw [hb]
      intro v B' H' g hv hpost
      have hp2 := hpost p (List.mem_singleton.mpr rfl)
      have Bp : B' p = none := (g.nw p _ r2 r6).trans r3
      have OO : Ok C (G1.set i ((F.post x).flag e.fl)) B' H' σ := by
        refine ⟨O1.g.trans g (fun b hb => ?_), O1.h1.trans g.bb, by rw [List.length_set]; exact O1.len, fun j f ov hj hs => ?_, fun j k f f' q' n hj hk mj mk sj sk => ?_⟩
        · rw [List.mem_singleton.mp hb]; exact ⟨r5, r4⟩
        · by_cases z : i = j
          · subst z
            rw [List.getElem?_set_self (lt_get hi)] at hj
            cases hj
            rw [hv0'] at hs; cases hs
            exact hp2.reflag hpm fun _ => ⟨Bp, hfl.2⟩
          · rw [List.getElem?_set_ne z] at hj
            refine (O1.ent j f ov hj hs).keep g.bb fun p2 o2 e1 e2 e3 => ?_
            have n2 : p2 ≠ p := fun y => O1.sep i j e f p z hi hj hm e2 hv0' (by rw [hs, e1, y])
            obtain ⟨q2, _, w1, w2, w3, _, _, w6⟩ := (O1.ent j f ov hj hs).mine_at e2
            rw [e1] at w1; cases w1
            refine ⟨?_, (g.nw p2 _ w2 w6).trans w3⟩
            rcases g.hh p2 o2 (fun y => n2 (List.mem_singleton.mp y)) e3 with y | ⟨_, y, _⟩
            · exact y
            · rw [(g.nw p2 _ w2 w6).trans w3] at y; cases y
        · by_cases zj : i = j
          · subst zj
            rw [List.getElem?_set_ne n] at hk
            exact O1.sep i k e f' q' n hi hk hm mk sj sk
          · rw [List.getElem?_set_ne zj] at hj
            by_cases zk : i = k
            · subst zk
              exact O1.sep j i f e q' n hj hi mj hm sj sk
            · rw [List.getElem?_set_ne zk] at hk
              exact O1.sep j k f f' q' n hj hk mj mk sj sk
      have ap : ∀ p', H1 p' = none → Apart (G1.set i ((F.post x).flag e.fl)) σ p' := fun p' e3 j f hj hmf hs => by
        by_cases z : i = j
        · subst z
          rw [hv0'] at hs
          cases hs
          rw [e3] at r2; cases r2
        · rw [List.getElem?_set_ne z] at hj
          obtain ⟨p2, o2, w1, w2, _⟩ := (O1.ent j f _ hj hs).mine_at hmf
          cases w1; rw [e3] at w2; cases w2
      have conv : ∀ {p' : Addr}, Mine (C00 B1 H1 [p]) B' false p' → H1 p' = none ∧ Mine C B' false p' := fun {p'} h => by
        obtain ⟨h1, _, h3⟩ := h
        rw [if_neg Bool.false_ne_true] at h3
        refine ⟨h3, h1, fun z => ?_, by rw [if_neg Bool.false_ne_true]; exact O1.g.old h3⟩
        obtain ⟨od, o, e⟩ := O1.g.hl p' z
        rw [show H1 p' = none from h3] at e; cases e
      rw [hres] at hv
      cases en with
      | any => exact q v B' H' OO (s1.trans g.bb) trivial fun m => by cases m
      | dat r a => exact q v B' H' OO (s1.trans g.bb) hv fun m => by cases m
      | tld F a =>
        obtain ⟨u, L, k1, k2, k3, k4⟩ := hv
        exact q v B' H' OO (s1.trans g.bb) ⟨u, L, k1, k2, k3, fun p hp => O1.g.old (k4 p hp)⟩ fun m => by cases m
      | own m r l =>
        cases hf
        obtain ⟨p', us, e1, e2, e3, e4⟩ := hv
        cases e1
        obtain ⟨h3, h4⟩ := conv e3
        exact q _ B' H' OO (s1.trans g.bb) ⟨p', us, rfl, e2, h4, e4⟩ fun _ p' e => by cases e; exact ap _ h3
      | ownT m r l =>
        cases hf
        obtain ⟨p', us, e1, e2, e3, e4⟩ := hv
        cases e1
        obtain ⟨h3, h4⟩ := conv e3
        exact q _ B' H' OO (s1.trans g.bb) ⟨p', us, rfl, e2, h4, e4⟩ fun _ p' e => by cases e; exact ap _ h3
      | ownK m r l =>
        cases hf
        obtain ⟨p', us, e1, e2, e3, e4⟩ := hv
        cases e1
        obtain ⟨h3, h4⟩ := conv e3
        exact q _ B' H' OO (s1.trans g.bb) ⟨p', us, rfl, e2, h4, e4⟩ fun _ p' e => by cases e; exact ap _ h3
      | ownX m l =>
        cases hf
        obtain ⟨p', us, e1, e2, e3, e4⟩ := hv
        cases e1
        obtain ⟨h3, h4⟩ := conv e3
        exact q _ B' H' OO (s1.trans g.bb) ⟨p', us, rfl, e2, h4, e4⟩ fun _ p' e => by cases e; exact ap _ h3
end
section
variable {X : Cx} {C : C0} {G G' G0 G1 G2 G3 : List Ent} {α β γ S ρ : Type} {r : Rp α} {s : Rp β} {a b c : Expr} {e it elt : Expr} {es : List Expr} {body : List Stmt} {pos p p2 apos cpos : Pos} {x : Str} {en : Ent} {rest : List Stmt} {D : Ends} {as : List α} {scope : Scope}
theorem x_callOE {ι : Type} {F : FS ι} {ps : List Str} {k i : Nat} {as : List Arg} {e0 : Ent} {es0 : List Ent} {er : Ent} (c : Callee X.prog X.w X.K X.mg X.base CX0 x ps F.sp k) (hr : Room k X.A) (y : ι) (ha : XA X C (e :: es) G G1 (.s i :: as)) (hi : G1[i]? = some e0) (hm : e0.mine = true)
    (hx1 : F.args y = e0.flag true :: es0) (hx : FitD as es0) (hres : F.res y = er) (hf : er.fl = false) (hpm : (F.post y).mine = true := by rfl) (hb : F.bad y = none := by rfl) (hg : Gl X x := by rfl)
    (hdbg : (x == ("__debug__" : Str)) = false := by decide) (hst : starEach (e :: es) X.env = (false, eval e X.env) :: starEach es X.env := by rfl) (hpl : (backTo pos (starEach es X.env)).any (·.1) = false := by rfl) :
    XE X C (.Call (.Name x p) (e :: es) [] pos) G (G1.set i ((F.post y).flag e0.fl)) er := by
  obtain ⟨f, fd, h1, h2, h3, h4⟩ := c.ex
  exact x_of (pe_call (dvs := []) h1 hr hg h2 h3 h4 .nil pass0 (pa_w _) hdbg hst hpl) (ev_callOE y ha hi hm hx1 hx hres hf hpm hb)
end
end TL

namespace TL
open PySem PySem.Spec PyProof.Rows L2 RT
section
variable {prog : Program} {w : World} {A : Around} {E : Value → Shared → Prop} {s : Shared}
end
section
variable {X : Cx}
end
section
variable {X : Cx} {C : C0} {G G' G0 G1 G2 G3 : List Ent} {α β γ S : Type} {r : Rp α} {s : Rp β} {a b c : Expr} {pos p p2 apos cpos : Pos}
theorem gs_endN {D : Ends} (h : ∀ B' H' σ', Ok C G B' H' σ' → D.nx σ' H') : GS X C G [] D := gs_fin fun B H σ O => h B H σ O
end
end TL

namespace TL
open PySem PySem.Spec PyProof.Rows L2
section
variable {C : C0} {G G' G0 G1 G2 : List Ent} {ι : Type} {F : FS ι} {ta : TA} {as : List Arg} {E : XK}
end
section
variable {X : Cx} {C : C0} {G G' G0 G1 G2 G3 : List Ent} {α β γ S : Type} {r : Rp α} {s : Rp β} {a b c : Expr} {e : Expr} {es : List Expr} {pos p p2 apos cpos : Pos} {x : Str}
theorem x_isi_int_I {k : Int} (hm : X.mg "isinstance" = none) (hm2 : X.mg "int" = none) (h : XE X C a G G1 (.dat TL.rI k)) {p2 : Pos} (hg : Gl X "isinstance" := by rfl) (hg2 : Gl X "int" := by rfl)
    (he : starEach [a, .Name "int" p2] X.env = (false, eval a X.env) :: starEach [.Name "int" p2] X.env := by rfl) (he2 : starEach [.Name "int" p2] X.env = (false, eval (.Name "int" p2) X.env) :: starEach [] X.env := by rfl) (hpl : (backTo pos (starEach [.Name "int" p2] X.env)).any (·.1) = false := by rfl) :
    XE X C (.Call (.Name "isinstance" p) [a, .Name "int" p2] [] pos) G G1 (.dat TL.rB true) :=
  x_of (pe_callB call_isi hg hm (by decide +kernel) (pa_cons (pe_w a) (pa_cons (pe_bltn (v := .ty "int") hg2 hm2 (by decide +kernel) rfl) pa_nil he2) he) (he := he) (hpl := hpl)) (Ev.mk fun B H σ O Q q => h.go O fun v B1 H1 O1 s1 hv => by
    cases hv
    exact ⟨.int k, .ty "int", .type "int", .type "int", true, rfl, .ty "int", .base (.int k), kit_ty (by decide +kernel), q _ _ _ O1 s1 rfl⟩)
theorem x_isi_bool_I {k : Int} (hm : X.mg "isinstance" = none) (hm2 : X.mg "bool" = none) (h : XE X C a G G1 (.dat TL.rI k)) {p2 : Pos} (hg : Gl X "isinstance" := by rfl) (hg2 : Gl X "bool" := by rfl)
    (he : starEach [a, .Name "bool" p2] X.env = (false, eval a X.env) :: starEach [.Name "bool" p2] X.env := by rfl) (he2 : starEach [.Name "bool" p2] X.env = (false, eval (.Name "bool" p2) X.env) :: starEach [] X.env := by rfl) (hpl : (backTo pos (starEach [.Name "bool" p2] X.env)).any (·.1) = false := by rfl) :
    XE X C (.Call (.Name "isinstance" p) [a, .Name "bool" p2] [] pos) G G1 (.dat TL.rB false) :=
  x_of (pe_callB call_isi hg hm (by decide +kernel) (pa_cons (pe_w a) (pa_cons (pe_bltn (v := .ty "bool") hg2 hm2 (by decide +kernel) rfl) pa_nil he2) he) (he := he) (hpl := hpl)) (Ev.mk fun B H σ O Q q => h.go O fun v B1 H1 O1 s1 hv => by
    cases hv
    exact ⟨.int k, .ty "bool", .type "int", .type "bool", false, rfl, .ty "bool", .base (.int k), kit_ty (by decide +kernel), q _ _ _ O1 s1 rfl⟩)
theorem x_isi_list_L {l : List α} (hm : X.mg "isinstance" = none) (hm2 : X.mg "list" = none) (h : Rl C (wE X a) G G1 r l) {p2 : Pos} (hg : Gl X "isinstance" := by rfl) (hg2 : Gl X "list" := by rfl)
    (he : starEach [a, .Name "list" p2] X.env = (false, eval a X.env) :: starEach [.Name "list" p2] X.env := by rfl) (he2 : starEach [.Name "list" p2] X.env = (false, eval (.Name "list" p2) X.env) :: starEach [] X.env := by rfl) (hpl : (backTo pos (starEach [.Name "list" p2] X.env)).any (·.1) = false := by rfl) :
    XE X C (.Call (.Name "isinstance" p) [a, .Name "list" p2] [] pos) G G1 (.dat TL.rB true) :=
  x_of (pe_callB call_isi hg hm (by decide +kernel) (pa_cons (pe_w a) (pa_cons (pe_bltn (v := .ty "list") hg2 hm2 (by decide +kernel) rfl) pa_nil he2) he) (he := he) (hpl := hpl)) (Ev.mk fun B H σ O Q q => h B H σ O _ fun pp B1 H1 O1 s1 hp => by
    obtain ⟨vs, h1, h2⟩ := hp B1 H1 O1 (Same.refl _)
    exact ⟨.ref pp, .ty "list", .type "list", .type "list", true, rfl, .ty "list", .base (.lst h1), kit_ty (by decide +kernel), q _ _ _ O1 s1 rfl⟩)
end
end TL

namespace TL
open PySem PySem.Spec PyProof.Rows L2
inductive Er where
  | web | piece | chain | closed | table | goal | push | map | order | number | note
  deriving DecidableEq, Inhabited
def Er.name : Er → Str
  | .web => "NoWeb"
  | .piece => "NoPiece"
  | .chain => "NoChain"
  | .closed => "NotClosed"
  | .table => "NoTable"
  | .goal => "NoGoal"
  | .push => "NoPush"
  | .map => "NoMap"
  | .order => "NoOrder"
  | .number => "NoNumber"
  | .note => "NoNote"
def Er.word : Er → Str
  | .web => PySem.Str.ofString "web"
  | .piece => PySem.Str.ofString "piece"
  | .chain => PySem.Str.ofString "chain"
  | .closed => PySem.Str.ofString "closed"
  | .table => PySem.Str.ofString "table"
  | .goal => PySem.Str.ofString "goal"
  | .push => PySem.Str.ofString "push"
  | .map => PySem.Str.ofString "map"
  | .order => PySem.Str.ofString "order"
  | .number => PySem.Str.ofString "number"
  | .note => PySem.Str.ofString "note"
def Er.val (mg : Str → Option Value) (e : Er) : Value := (mg e.name).getD .none
structure ErAt (K : PySem.W.Frag) (mg : Str → Option Value) (e : Er) : Prop where
  ex : ∃ C, mg e.name = some (.ref C) ∧ PySem.W.excIn K C [.type "ValueError", .type "Exception", .type "BaseException", .type "object"] "ValueError.__new__" = true ∧ PySem.W.keepIn K (.ref C) = true ∧
    PySem.W.subIn K (.ref C) (.type "BaseException") = some true ∧ PySem.W.typeIn K (.ref C) = some (.type "type")
structure ErIn (K : PySem.W.Frag) (mg : Str → Option Value) (c : Str) (evs : Er → Prop) : Prop where
  ex : ∃ v, mg c = some v ∧ ∀ e, evs e → PySem.W.exmOne K (e.val mg) v = some true
structure ErIs (K : PySem.W.Frag) (mg : Str → Option Value) (e : Er) : Prop where
  ex : ∃ C, mg e.name = some (.ref C) ∧ ExcC K C
def thenE {α β : Type} (x : Except Er α) (k : α → Except Er β) : Except Er β := match x with
  | .ok v => k v
  | .error e => .error e
theorem thenE_ok {α β : Type} {x : Except Er α} {k : α → Except Er β} {v : α} (h : x = .ok v) : thenE x k = k v := by rw [h]; rfl
theorem thenE_er {α β : Type} {x : Except Er α} {k : α → Except Er β} {e : Er} (h : x = .error e) : thenE x k = .error e := by rw [h]; rfl
def FS.ofE {ι α : Type} (mg : Str → Option Value) (args : ι → List Ent) (m : ι → Except Er α) (res : α → Ent) : FS ι where
  args := args
  res := fun x => match m x with
    | .ok v => res v
    | .error _ => .any
  bad := fun x => match m x with
    | .ok _ => none
    | .error e => some (e.val mg)
section
variable {ι α : Type} {mg : Str → Option Value} {args : ι → List Ent} {m : ι → Except Er α} {res : α → Ent} {y : ι}
theorem ofE_ok {v : α} (h : m y = .ok v) : (FS.ofE mg args m res).bad y = none ∧ (FS.ofE mg args m res).res y = res v := by
  unfold FS.ofE
  dsimp only
  rw [h]
  exact ⟨rfl, rfl⟩
theorem ofE_er {e : Er} (h : m y = .error e) : (FS.ofE mg args m res).bad y = some (e.val mg) := by
  unfold FS.ofE
  dsimp only
  rw [h]
end
section
variable {P : Program} {w : World} {K : PySem.W.Frag} {mg : Str → Option Value} {base : Heap} {ι : Type}
end
section
variable {C : C0} {G G' G0 G1 G2 : List Ent} {ι : Type} {F : FS ι} {ta : TA} {as : List Arg} {E : L2.St → XK}
theorem ev_callS (x : ι) (ha : EvA C ta G G1 as) (hx : FitD as (F.args x)) (hb : F.bad x = none) : Ev C (tCallS F.sp E ta) G G1 (F.res x) := fun B H σ O Q q => by
  have h := ev_call (F := F) (E := E σ) x ha hx rfl hb B H σ O Q q
  unfold tCall at h
  simp only [List.append_nil] at h
  exact h
theorem er_callS (x : ι) (ha : EvA C ta G G1 as) (hx : FitD as (F.args x)) {c : Value} (hb : F.bad x = some c) {W : WX} (hW : ∀ B H σ, Ok C G1 B H σ → W c none σ H) : ∀ B H σ, Ok C G B H σ → ∀ Q : VK, tCallS F.sp (WE W) ta σ H Q := fun B H σ O Q => ha B H σ O _ fun vs B1 H1 O1 s1 hvs => by
  refine ⟨x, B1, [], FitD.ok (C := C00 B1 H1 []) (callee_kn O1) (fun _ _ h => by cases h) hx hvs, fun _ h => absurd h List.not_mem_nil, ?_⟩
  rw [hb]
  intro B' H' g
  exact hW B' H' σ (O1.after g)
end
section
variable {X : Cx} {C : C0} {G G' G0 G1 G2 G3 : List Ent} {α β γ S : Type} {r : Rp α} {s : Rp β} {a b c : Expr} {e : Expr} {es : List Expr} {pos p p2 apos cpos pos' : Pos} {x : Str} {en : Ent} {rest : List Stmt} {D : Ends} {W : WX}
abbrev CalleeX (P : Program) (w : World) (K : PySem.W.Frag) (mg : Str → Option Value) (base : Heap) (name : Str) (ps : List Str) (sp : Sp) (k : Nat) : Prop := Callee P w K mg base (L2.CX P w) name ps sp k
theorem x_callX {ι : Type} {F : FS ι} {ps : List Str} {k : Nat} {as : List Arg} (c : CalleeX X.prog X.w X.K X.mg X.base x ps F.sp k) (hr : Room k X.A) (y : ι) (ha : XA X C (e :: es) G G1 as) (fit : FitD as (F.args y)) (hres : F.res y = en) (hb : F.bad y = none) (hg : Gl X x := by rfl)
    (hdbg : (x == ("__debug__" : Str)) = false := by decide) (hst : starEach (e :: es) X.env = (false, eval e X.env) :: starEach es X.env := by rfl) (hpl : (backTo pos (starEach es X.env)).any (·.1) = false := by rfl) :
    XE X C (.Call (.Name x p) (e :: es) [] pos) G G1 en := by
  obtain ⟨f, fd, h1, h2, h3, h4⟩ := c.ex
  exact x_of (pe_call (dvs := []) h1 hr hg h2 h3 h4 .nil passL (pa_w _) hdbg hst hpl) (ev_call y ha fit hres hb)
theorem pe_callW {ι : Type} {F : FS ι} {ps : List Str} {k : Nat} (c : CalleeX X.prog X.w X.K X.mg X.base x ps F.sp k) (hr : Room k X.A) (tk : Takes X W) (hg : Gl X x := by rfl)
    (hdbg : (x == ("__debug__" : Str)) = false := by decide) (hst : starEach (e :: es) X.env = (false, eval e X.env) :: starEach es X.env := by rfl) (hpl : (backTo pos (starEach es X.env)).any (·.1) = false := by rfl) :
    PE X (.Call (.Name x p) (e :: es) [] pos) (tCallS F.sp (WE W) (wA X (e :: es))) := by
  obtain ⟨f, fd, h1, h2, h3, h4⟩ := c.ex
  exact pe_callS h1 hr hg h2 h3 h4 (fun σ => passAt tk σ) (pa_w _) hdbg hst hpl
theorem gs_rz {st : Stmt} {t : TS} (h : PS X st t) (q : ∀ B H σ, Ok C G B H σ → ∀ D', t D' σ H) : GS X C G (st :: rest) D := fun B H σ O => w_ps h (q B H σ O _)
theorem gs_setX {ι : Type} {m : ι → Except Er α} {args : ι → List Ent} {res : α → Ent} {ps : List Str} {k i : Nat} {as : List Arg} {f : Str} {z : Str} {zp : Pos} (c : CalleeX X.prog X.w X.K X.mg X.base f ps (FS.ofE X.mg args m res).sp k) (hr : Room k X.A) (tk : Takes X W) (y : ι)
    (ha : XA X C (e :: es) G G1 as) (fit : FitD as (args y)) (hN : X.N.Nodup) (hi : X.N[i]? = some z) (hx : Loc X.env.scope z)
    (hok : ∀ v, m y = .ok v → GS X C (G1.set i (res v)) rest D) (her : ∀ ev, m y = .error ev → ∀ B H σ, Ok C G1 B H σ → W (ev.val X.mg) none σ H)
    (hs : swapsWith (.Call (.Name f p) (e :: es) [] cpos) (some (.Name z zp)) pos.line X.env = pure false := by rfl) (hf : X.fn z = true ∨ X.env.scope.names.lookup z = some .local := by first | exact .inl rfl | exact .inr rfl)
    (hg : Gl X f := by rfl) (hdbg : (f == ("__debug__" : Str)) = false := by decide) (hst : starEach (e :: es) X.env = (false, eval e X.env) :: starEach es X.env := by rfl) (hpl : (backTo cpos (starEach es X.env)).any (·.1) = false := by rfl) :
    GS X C G (.Assign [.Name z zp] (.Call (.Name f p) (e :: es) [] cpos) pos :: rest) D := by
  have hp := pe_callW (p := p) (pos := cpos) c hr tk hg hdbg hst hpl
  cases hm : m y with
  | ok v =>
    obtain ⟨h1, h2⟩ := ofE_ok (mg := X.mg) (args := args) (res := res) hm
    refine gs_set hN hi hx (x_of hp ?_) (hok v hm) hs hf
    rw [← h2]
    exact ev_callS y ha fit h1
  | error ev =>
    have h1 := ofE_er (mg := X.mg) (args := args) (res := res) hm
    exact gs_rz (ps_set hN hi hx hp hs hf) fun B H σ O D' => er_callS y ha fit h1 (her ev hm) B H σ O _
theorem gs_exprX {ι : Type} {m : ι → Except Er α} {args : ι → List Ent} {res : α → Ent} {ps : List Str} {k : Nat} {as : List Arg} {f : Str} (c : CalleeX X.prog X.w X.K X.mg X.base f ps (FS.ofE X.mg args m res).sp k) (hr : Room k X.A) (tk : Takes X W) (y : ι)
    (ha : XA X C (e :: es) G G1 as) (fit : FitD as (args y))
    (hok : ∀ v, m y = .ok v → GS X C G1 rest D) (her : ∀ ev, m y = .error ev → ∀ B H σ, Ok C G1 B H σ → W (ev.val X.mg) none σ H)
    (hs : swapsWith (.Call (.Name f p) (e :: es) [] cpos) none pos.line X.env = pure false := by rfl)
    (hg : Gl X f := by rfl) (hdbg : (f == ("__debug__" : Str)) = false := by decide) (hst : starEach (e :: es) X.env = (false, eval e X.env) :: starEach es X.env := by rfl) (hpl : (backTo cpos (starEach es X.env)).any (·.1) = false := by rfl) :
    GS X C G (.Expr (.Call (.Name f p) (e :: es) [] cpos) pos :: rest) D := by
  have hp := pe_callW (p := p) (pos := cpos) c hr tk hg hdbg hst hpl
  cases hm : m y with
  | ok v =>
    obtain ⟨h1, h2⟩ := ofE_ok (mg := X.mg) (args := args) (res := res) hm
    refine gs_expr (e := res v) (x_of hp ?_) (hok v hm) hs
    rw [← h2]
    exact ev_callS y ha fit h1
  | error ev =>
    have h1 := ofE_er (mg := X.mg) (args := args) (res := res) hm
    exact gs_rz (ps_expr hp hs) fun B H σ O D' => er_callS y ha fit h1 (her ev hm) B H σ O _
theorem gs_raise {ev : Er} {m nm : Str} {j : Nat} (K : ErAt X.K X.mg ev) (tk : Takes X W) (hnm : ev.name = nm) (her : ∀ B H σ, Ok C G B H σ → W (ev.val X.mg) none σ H) (hc : X.calm = true := by rfl) (hg : Gl X nm := by rfl) (hdb : (nm == ("__debug__" : Str)) = false := by decide) :
    GS X C G (.Raise (some (.Call (.Name nm p) [.Constant (.str m) j p2] [] cpos)) none pos :: rest) D := by
  obtain ⟨Ca, k1, k2, k3, k4, k5⟩ := K.ex
  subst hnm
  have hv : ev.val X.mg = .ref Ca := by unfold Er.val; rw [k1]; rfl
  refine gs_rz (ps_raise hc tk (pmk_own PySem.F.excBase_ValueError k2 k1 k3 (raises_own k4 k5) hg hdb)) fun B H σ O D' => ?_
  have := her B H σ O
  rw [hv] at this
  exact this
end
end TL

namespace TL
open PySem PySem.Spec PyProof.Rows L2
structure IsAt (K : PySem.W.Frag) (mg : Str → Option Value) (ev : Er) (c : Er) : Prop where
  k : ∃ C, mg c.name = some (.ref C) ∧ PySem.W.kitOne K (ev.val mg) (.ref C) = some (decide (c = ev))
structure IsVE (K : PySem.W.Frag) (mg : Str → Option Value) (ev : Er) : Prop where
  C : ∃ C, mg ev.name = some (.ref C) ∧ ExcC K C
  v : PySem.W.kitOne K (ev.val mg) (.type "ValueError") = some true
structure WhichOk (P : Program) (w : World) (K : PySem.W.Frag) (mg : Str → Option Value) (base : Heap) (k : Nat) (f : Addr) (fd : FuncData) (ps : List Str) (evs : Er → Prop) : Prop where
  run : ∀ (CX : CXT) (A : Around) (outer : List Env) (s : Shared) (H : Hp) (us : List Value) (p : Addr × Obj) (ev : Er) (Q : VK) (E : XK), evs ev → L2H.RoomH k A → L2H.PinOk outer H s p → Zc (ev.val mg) none p.2 → (∃ vs, p.2.data = .fields vs) → Env0 P w K mg base A outer s H →
    BindsTo s fd ⟨us, []⟩ (ps.zip us) → Vals [.ref p.1] us → ∀ B : Hp, Kn B H → (∀ b o, H b = some o → Small o) → (∀ B' H', Grow [] [] B H B' H' → Q (.str ev.word) H') → codeAny (model P w) A (.call (.ref f) ⟨us, []⟩) (CR CX outer P w H s Q E) s
def rRef (q : Addr) : Rp Unit := ⟨fun _ v _ => v = .ref q, fun _ h => h⟩
section
variable {P : Program} {w : World} {K : PySem.W.Frag} {mg : Str → Option Value} {base : Heap}
theorem fn_which {x qual : Str} {st : Stmt} {f : Addr} {fd : FuncData} {N ps : List Str} {k : Nat} {evs : Er → Prop} (Fn : Fun K x qual st f fd) (S : FnScope N ps (defScope st)) (hps : ps.length = 1)
    (body : ∀ (CX : CXT) (cdv : Value) (A : Around) (outer : List Env) (s : Shared) (H : Hp) (E : XK) (p : Addr × Obj) (ev : Er) (C : C0) (D : Ends), evs ev → L2H.RoomH k (A.deeper (envOfC qual (defScope st) s.heap.objs.size f cdv)) → Zc (ev.val mg) none p.2 → (∃ vs, p.2.data = .fields vs) →
      (∀ G, RetOk C D G (.dat rS ev.word)) → GS (L2H.cxH CX P w K mg base N qual (defScope st) f cdv A outer s H E p) C ([.dat (rRef p.1) ()] ++ List.replicate (N.length - 1) .any) (defBody st) D) : WhichOk P w K mg base (k + 1) f fd ps evs := by
  obtain ⟨oc, od, kV, doc, pm, an, cdv, ct, osl, rfl, lk, hcd⟩ := Fn.ex
  refine ⟨fun CX A outer s H us p ev Q E hev hr hpin hz hf e0 hb r B hkn hsm hQ => ?_⟩
  have hl : ([V.ref p.1] : List V).length = ps.length := by rw [hps]; rfl
  have KX : K.In s.heap := e0.mod.kin.keeps fun b o e => (e0.bs b o e).1
  have lim : s.heap.NoLimit := e0.mod.nolimit.keeps fun b o e => (e0.bs b o e).1
  have hkind : ∀ y ∈ ps.zip us, (defScope st).names.lookup y.1 = some .local ∨ ((defScope st).names.lookup y.1 = some .cell ∧ ((cellsFrom (s.heap.objs.size + 1) (defScope st).names []).lookup y.1).isSome = true) := fun ⟨n, v⟩ hy => by
    rcases S.par n (List.of_mem_zip hy).1 with q | q
    · exact .inl q
    · exact .inr ⟨q, PySem.W.cellsFrom_some _ _ _ (.inl q)⟩
  refine codeAny_call_function hr.depth (KX _ _ lk) rfl S.co S.gen rfl (PySem.W.codeRec_of KX hcd) (hb _ _ _ _ ?_)
  refine wpAny_newFunctionEnv_cells S.kind hkind fun env he s1 x => ?_
  subst he
  refine ⟨lim.keeps x.toInCall.keep, codeAny_func ?_⟩
  have I : Inv (L2H.cxH CX P w K mg base N qual (defScope st) f cdv A outer s H E p) [] (L2.start N [.ref p.1]) H s1 := L2H.inv_startH S hpin e0 hl r x
  have O0 : Ok (C00 B H []) [.dat (rRef p.1) ()] B H ([V.ref p.1].map some) := by
    refine ⟨Grow.refl hkn (fun _ h => absurd h List.not_mem_nil) hsm, (fun _ _ h => by cases h), rfl, fun i e ov hi hs => ?_, fun i j e e' q n hi hj m m' _ _ => ?_⟩
    · cases i with
      | zero => cases hi; cases hs; exact ⟨_, rfl, rfl⟩
      | succ i => cases hi
    · cases i with
      | zero => cases hi; cases m
      | succ i => cases hi
  have hS : L2.start N [V.ref p.1] = [V.ref p.1].map some ++ List.replicate (N.length - 1) none := rfl
  have hb := body CX cdv A outer s H E p ev (C00 B H []) { nx := fun _ H' => Q .non H', rt := Q } hev (hr.deeper _) hz hf (fun G v B' H' σ' O' hv _ => by
    obtain ⟨w', e1, e2⟩ := hv
    cases e1
    rw [show v = .str ev.word from e2]
    exact hQ B' H' O'.g) B H _ (O0.start _)
  rw [← hS] at hb
  have fin : ∀ {σ' : L2.St} {H' : Hp} {v : V} {u : Value} {s' : Shared}, Inv (L2H.cxH CX P w K mg base N qual (defScope st) f cdv A outer s H E p) [] σ' H' s' → RelV v u → Q v H' → CE outer P w H s Q u s' :=
    fun {σ' H' v u s'} J rv q => ⟨v, H', J.os, J.bare, J.base, J.hok, rv, q⟩
  refine wpAny_mono ((pss_w _).run [] s1 (L2.start N [.ref p.1]) H _ I hb) (fun fl s' hs => ?_) fun e s' hs => hs
  cases fl with
  | ret u =>
    obtain ⟨v, σ', H', J, rv, q⟩ := hs
    exact fin J rv q
  | next =>
    obtain ⟨σ', H', J, q⟩ := hs
    exact fin (v := V.non) (u := Value.none) J rfl q
  | brk =>
    obtain ⟨_, _, _, q⟩ := hs
    exact False.elim q
  | cont =>
    obtain ⟨_, _, _, q⟩ := hs
    exact False.elim q
end
theorem call_isP {X : Cx} {a D : Addr} {oe : Obj} (hp : (a, oe) ∈ X.pn) (C : ExcC X.K D) (hz : Zc (.ref D) none oe) (hf : ∃ vs, oe.data = .fields vs) : CallR X (.builtin "isinstance") (rIsE X.K D a) := by
  intro pins s σ H xs us Q I r h
  obtain ⟨c, cv, b, rfl, hcv, e, q⟩ := h
  cases r with
  | cons rx rr =>
    cases rr with
    | cons rt rr =>
      cases rr
      cases rx
      have ec := hcv _ rt
      subst ec
      obtain ⟨hget, _⟩ := I.pin (a, oe) (List.mem_append.mpr (.inl hp))
      obtain ⟨vs, hv⟩ := hf
      have J : PySem.W.InstAt s.heap a oe D none := by
        obtain ⟨oc, od, oda, osl⟩ := oe
        obtain ⟨h1, h2⟩ := hz
        dsimp only at h1 h2 hv
        subst h1 h2 hv
        exact ⟨hget, rfl, rfl, trivial⟩
      exact PySem.W.kia_one (PySem.W.handS_kitx_exc C.hg C.hk C.hs C.hd C.ha C.hn C.ht C.hm) I.kIn J e (fun z => nomatch z) fun tk => ⟨.bl b, H, I.kept (t' := tk) fun _ _ z => z, rfl, q⟩
def idxB : List Bool → Nat
  | [] => 0
  | true :: _ => 0
  | false :: l => idxB l + 1
theorem idxB_lt : ∀ {l : List Bool}, true ∈ l → idxB l < l.length ∧ l[idxB l]? = some true ∧ ∀ m, m < idxB l → l[m]? = some false
  | [], h => absurd h List.not_mem_nil
  | true :: l, _ => ⟨Nat.succ_pos _, rfl, fun m h => absurd h (Nat.not_lt_zero _)⟩
  | false :: l, h => by
    have h2 : true ∈ l := by
      rcases List.mem_cons.mp h with h | h
      · cases h
      · exact h
    obtain ⟨a, b, c⟩ := idxB_lt h2
    refine ⟨Nat.succ_lt_succ a, b, fun m hm => ?_⟩
    cases m with
    | zero => rfl
    | succ m => exact c m (Nat.lt_of_succ_lt_succ hm)
theorem eqB_gives (k : Bool) : ∀ {us : List Value} {bs : List Bool}, Vals (bs.map V.bl) us → ∀ y ∈ us, ∀ (A : Around) (s : Shared), SeqAt.EqAt A s y (.bool k) (PyProof.Rows.isBoolOf k y)
  | _, [], .nil => fun y hy => absurd hy List.not_mem_nil
  | _, b :: bs, .cons h t => fun y hy A s => by
    rcases List.mem_cons.mp hy with e | hy
    · rw [e, show _ = Value.bool b from h]
      exact SeqAt.EqAt.bool_bool b k
    · exact eqB_gives k t y hy A s
theorem cntB (k : Bool) : ∀ {us : List Value} {bs : List Bool}, Vals (bs.map V.bl) us → us.countP (PyProof.Rows.isBoolOf k) = bs.count k
  | _, [], .nil => rfl
  | _, b :: bs, .cons h t => by
    rw [show _ = Value.bool b from h, List.countP_cons, List.count_cons, cntB k t]
    rfl
def rCntB (K : PySem.W.Frag) : V → List V → Hp → VK → Prop := fun x xs H Q => ∃ (p : Addr) (ns : List Bool) (k : Bool), x = .ref p ∧ xs = [.bl k] ∧ SqL K H p (ns.map V.bl) ∧ Q (.int (ns.count k : Nat)) H
theorem mt_bcount {X : Cx} : MtR X "list.count" (rCntB X.K) := by
  intro pins s σ H x xs v us Q I rx rxs h
  obtain ⟨p, ns, k, rfl, rfl, hs, q⟩ := h
  cases rx
  obtain ⟨u, rfl, ru⟩ := rxs.one
  cases (show u = Value.bool k from ru)
  obtain ⟨its, rv, ⟨⟨cls, dd, data, sl⟩, n, ho, hc, hdn, hd⟩, hlen⟩ := I.list hs
  simp only at hc hd
  subst hc hd
  refine call_meets PySem.F.slot_list_count ⟨_, ho, rfl⟩ PySem.F.entry_list_count (PySem.F.args_list_count_2 _ _)
    (SeqAt.list_countAt p its.toArray n dd sl (.bool k) (PyProof.Rows.isBoolOf k)) ⟨ho, fun y hy => eqB_gives k rv y (by simpa using hy) _ _, ?_⟩
  refine ⟨.int (ns.count k : Nat), H, I.tok _, ⟨s.toks, ?_⟩, q⟩
  show Value.int ((its.toArray.toList.countP (PyProof.Rows.isBoolOf k) : Nat) : Int) s.toks = Value.int ((ns.count k : Nat) : Int) s.toks
  rw [show its.toArray.toList = its from rfl, cntB k rv]
section
variable {X : Cx} {C : C0} {G G' G0 G1 G2 G3 : List Ent} {α β γ S : Type} {r : Rp α} {s : Rp β} {a b c : Expr} {e : Expr} {es : List Expr} {pos p p2 apos cpos pos' : Pos} {x : Str} {en : Ent} {rest : List Stmt} {D : Ends} {W : WX}
theorem x_isE {q : Addr} {oe : Obj} {ev ce : Er} {nm : Str} (T : IsAt X.K X.mg ev ce) (V : IsVE X.K X.mg ev) (hnm : ce.name = nm) (hp : (q, oe) ∈ X.pn) (hz : Zc (ev.val X.mg) none oe) (hf : ∃ vs, oe.data = .fields vs) (hm : X.mg "isinstance" = none) (h : XE X C a G G1 (.dat (rRef q) ())) {p2 : Pos} (hg : Gl X "isinstance" := by rfl) (hg2 : Gl X nm := by rfl) (hdb : (nm == ("__debug__" : Str)) = false := by decide)
    (he : starEach [a, .Name nm p2] X.env = (false, eval a X.env) :: starEach [.Name nm p2] X.env := by rfl) (he2 : starEach [.Name nm p2] X.env = (false, eval (.Name nm p2) X.env) :: starEach [] X.env := by rfl) (hpl : (backTo pos (starEach [.Name nm p2] X.env)).any (·.1) = false := by rfl) :
    XE X C (.Call (.Name "isinstance" p) [a, .Name nm p2] [] pos) G G1 (.dat TL.rB (decide (ce = ev))) := by
  obtain ⟨Ca, k1, k2⟩ := T.k
  obtain ⟨Cv, v1, v2⟩ := V.C
  subst hnm
  have hv : ev.val X.mg = .ref Cv := by unfold Er.val; rw [v1]; rfl
  rw [hv] at hz k2
  exact x_of (pe_callB (call_isP hp v2 hz hf) hg hm (by decide +kernel) (pa_cons (pe_w a) (pa_cons (pe_glob (v := .ref Ca) hg2 k1 rfl hdb) pa_nil he2) he) (he := he) (hpl := hpl)) (Ev.mk fun B H σ O Q q => h.go O fun v B1 H1 O1 s1 hv => by
    cases hv
    exact ⟨.ref Ca, .ref Ca, _, rfl, fun u hu => hu, k2, q _ _ _ O1 s1 rfl⟩)
theorem x_isVE {q : Addr} {oe : Obj} {ev : Er} (V : IsVE X.K X.mg ev) (hp : (q, oe) ∈ X.pn) (hz : Zc (ev.val X.mg) none oe) (hf : ∃ vs, oe.data = .fields vs) (hm : X.mg "isinstance" = none) (hm2 : X.mg "ValueError" = none) (h : XE X C a G G1 (.dat (rRef q) ())) {p2 : Pos} (hg : Gl X "isinstance" := by rfl) (hg2 : Gl X "ValueError" := by rfl)
    (he : starEach [a, .Name "ValueError" p2] X.env = (false, eval a X.env) :: starEach [.Name "ValueError" p2] X.env := by rfl) (he2 : starEach [.Name "ValueError" p2] X.env = (false, eval (.Name "ValueError" p2) X.env) :: starEach [] X.env := by rfl) (hpl : (backTo pos (starEach [.Name "ValueError" p2] X.env)).any (·.1) = false := by rfl) :
    XE X C (.Call (.Name "isinstance" p) [a, .Name "ValueError" p2] [] pos) G G1 (.dat TL.rB true) := by
  obtain ⟨Cv, v1, v2⟩ := V.C
  have k2 := V.v
  have hv : ev.val X.mg = .ref Cv := by unfold Er.val; rw [v1]; rfl
  rw [hv] at hz k2
  exact x_of (pe_callB (call_isP hp v2 hz hf) hg hm (by decide +kernel) (pa_cons (pe_w a) (pa_cons (pe_bltn (v := .ty "ValueError") hg2 hm2 (by decide +kernel) rfl) pa_nil he2) he) (he := he) (hpl := hpl)) (Ev.mk fun B H σ O Q q => h.go O fun v B1 H1 O1 s1 hv => by
    cases hv
    exact ⟨.ty "ValueError", .type "ValueError", _, rfl, fun u hu => hu, k2, q _ _ _ O1 s1 rfl⟩)
theorem x_countB {l : List Bool} {k : Bool} (h : Rl C (wE X a) G G1 TL.rB l) (hb : XE X C b G1 G1 (.dat TL.rB k))
    (hbase : attributeBase a "count" X.env (eval a X.env) = eval a X.env := by rfl)
    (hfew : ((backTo cpos (starEach [b] X.env)).all (fun x => !x.1) && (backToKw cpos (keywordEach [] X.env)).all (fun x => x.1.isSome) && decide (([b] : List Expr).length + ([] : List Keyword).length + (if ([] : List Keyword).isEmpty then 0 else 1) < 30)) = true := by rfl)
    (hline : (apos.endLine == cpos.line) = true := by rfl) (hs : starEach [b] X.env = (false, eval b X.env) :: starEach [] X.env := by rfl) (hplain : (backTo cpos (starEach [] X.env)).any (·.1) = false := by rfl) :
    XE X C (.Call (.Attribute a "count" apos) [b] [] cpos) G G1 (.dat TL.rI (l.count k : Nat)) :=
  x_of (pe_bm PySem.F.plainAttrs_list PySem.F.slot_list_count PySem.F.type_list_count mt_bcount (pe_w a) (pa_cons (pe_w b) pa_nil hs) hbase hfew hline hs hplain) (Ev.mk fun B H σ O Q q => h B H σ O _ fun pp B1 H1 O1 s1 hp => by
    obtain ⟨vs, h1, h2⟩ := hp B1 H1 O1 (Same.refl _)
    refine ⟨.inl ⟨rfl, vs, SqL.of h1⟩, hb.go O1 fun y B2 H2 O2 s2 hy => ?_⟩
    obtain ⟨vs2, h3, h4⟩ := hp B2 H2 O2 s2
    cases hy
    refine ⟨pp, l, k, rfl, rfl, ?_, q _ _ _ O2 (s1.trans s2) rfl⟩
    rw [← paired_bls h4]
    exact SqL.of h3)
theorem bls_flat : ∀ l : List Bool, (l.map V.bl).all flatV = true
  | [] => rfl
  | b :: l => by rw [List.map_cons, List.all_cons, bls_flat l]; rfl
theorem x_indexB {l : List Bool} (hl : true ∈ l) (h : Rl C (wE X a) G G1 TL.rB l) (hb : XE X C b G1 G1 (.dat TL.rB true))
    (hbase : attributeBase a "index" X.env (eval a X.env) = eval a X.env := by rfl)
    (hfew : ((backTo cpos (starEach [b] X.env)).all (fun x => !x.1) && (backToKw cpos (keywordEach [] X.env)).all (fun x => x.1.isSome) && decide (([b] : List Expr).length + ([] : List Keyword).length + (if ([] : List Keyword).isEmpty then 0 else 1) < 30)) = true := by rfl)
    (hline : (apos.endLine == cpos.line) = true := by rfl) (hs : starEach [b] X.env = (false, eval b X.env) :: starEach [] X.env := by rfl) (hplain : (backTo cpos (starEach [] X.env)).any (·.1) = false := by rfl) :
    XE X C (.Call (.Attribute a "index" apos) [b] [] cpos) G G1 (.dat TL.rI (idxB l : Nat)) :=
  x_of (pe_bm PySem.F.plainAttrs_list PySem.F.slot_list_index PySem.F.type_list_index mt_index (pe_w a) (pa_cons (pe_w b) pa_nil hs) hbase hfew hline hs hplain) (Ev.mk fun B H σ O Q q => h B H σ O _ fun pp B1 H1 O1 s1 hp => by
    obtain ⟨vs, h1, h2⟩ := hp B1 H1 O1 (Same.refl _)
    refine ⟨.inl ⟨rfl, vs, SqL.of h1⟩, hb.go O1 fun y B2 H2 O2 s2 hy => ?_⟩
    obtain ⟨vs2, h3, h4⟩ := hp B2 H2 O2 s2
    cases hy
    obtain ⟨i1, i2, i3⟩ := idxB_lt hl
    refine ⟨pp, l.map V.bl, .bl true, idxB l, .bl true, rfl, rfl, ?_, rfl, bls_flat l, by rw [List.getElem?_map, i2]; rfl, rfl, fun m z hm hz => ?_, q _ _ _ O2 (s1.trans s2) rfl⟩
    · rw [← paired_bls h4]
      exact SqL.of h3
    · rw [List.getElem?_map, i3 m hm] at hz
      cases hz
      rfl)
def bTr (X : Cx) (sts : List Stmt) (W : WX) : TS := fun D σ H => ∀ (pn : List (Addr × Obj)) (xe : Value → Shared → Prop), Takes (X.tr pn xe) W → PassesOwn (model X.prog X.w) X.A X.env xe → wSs (X.tr pn xe) sts D σ H
def bSu (X : Cx) (sts : List Stmt) (a : Addr) (cls : Value) (d : Option Addr) : TS := fun D σ H => ∀ (oe : Obj) (pn : List (Addr × Obj)), Zc cls d oe → (∃ vs, oe.data = .fields vs) → wSs (X.suite a ((a, oe) :: pn)) sts D σ H
theorem pe_which {evs : Er → Prop} {f : Addr} {fd : FuncData} {ps : List Str} {k i : Nat} {fn n : Str} {np : Pos} {ev : Er} {q : Addr} {oe : Obj} {B : Hp} (F : WhichOk X.prog X.w X.K X.mg X.base k f fd ps evs) (hps : ps.length = 1) (hev : evs ev) (hr : L2H.RoomH k X.A) (hp : (q, oe) ∈ X.pn) (hz : Zc (ev.val X.mg) none oe) (hf : ∃ vs, oe.data = .fields vs)
    (hg : Gl X fn) (hm : X.mg fn = some (.ref f)) (hk : PySem.W.keepIn X.K (.ref f) = true) (hb : Binds X.K fd ps []) (ha : PA X [.Name n np] (tCons (tVar i) tNil))
    (hdb : (fn == ("__debug__" : Str)) = false := by decide) (he : starEach [.Name n np] X.env = (false, eval (.Name n np) X.env) :: starEach [] X.env := by rfl) (hpl : (backTo pos (starEach [] X.env)).any (·.1) = false := by rfl) :
    PE X (.Call (.Name fn p) [.Name n np] [] pos) (fun σ H Q => σ[i]? = some (some (.ref q)) ∧ Kn B H ∧ (∀ b o, H b = some o → Small o) ∧ ∀ B' H', Grow [] [] B H B' H' → Q (.str ev.word) H') := by
  refine ⟨fun pins s σ H Q I h => ?_⟩
  obtain ⟨h1, h2, h3, h4⟩ := h
  refine wpAny_Call_Name_kw (ld_glob I hg hm ?_ hdb)
  refine PySem.W.callWith_K (h₀ := X.base) I.ok.mod.kin hk (thn (ha.run pos pins s σ H (fun vs H1 => vs = [.ref q] ∧ H1 = H) I ⟨_, h1, rfl, rfl⟩) fun us s1 ⟨vs, H1, I1, r, e1, e2⟩ => ⟨I1.kIn, ?_⟩) he hpl
  subst e1 e2
  have hl : us.length = ps.length := by rw [← r.length, hps]; rfl
  have b := hb s1 us I1.kIn (by rw [List.append_nil]; exact hl)
  rw [List.append_nil] at b
  have P1 := I1.pin (q, oe) (List.mem_append_left _ hp)
  have hpin : L2H.PinOk X.stack H1 s1 (q, oe) := ⟨P1.1, P1.2.1, fun hm => (List.mem_cons.mp (I1.stkSub q hm)).elim P1.2.2.1 P1.2.2.2.1, P1.2.2.2.2⟩
  refine wpAny_call (codeAny_mono (F.run (fun _ _ _ _ _ _ => False) X.A X.stack s1 H1 us (q, oe) ev Q (fun _ _ _ => False) hev hr hpin hz hf I1.env0 b r B h2 h3 h4) fun r s' hq => ?_)
  cases r with
  | error e => exact hq.elim
  | ok fl =>
    cases fl with
    | ret u => exact I1.after hq
    | next => exact False.elim hq
    | brk => exact False.elim hq
    | cont => exact False.elim hq
theorem gs_try {evs : Er → Prop} {f : Addr} {fd : FuncData} {ps : List Str} {k i j : Nat} {cn fn n t : Str} {body : List Stmt} {Wout : WX} {np fp xp tp : Pos} {hpos apos : Pos} (F : WhichOk X.prog X.w X.K X.mg X.base k f fd ps evs) (hps : ps.length = 1) (hm : X.mg fn = some (.ref f)) (hk : PySem.W.keepIn X.K (.ref f) = true) (hb : Binds X.K fd ps [])
    (hin : ErIn X.K X.mg cn evs) (hr : Room k X.A) (tk : Takes X Wout) (hN : X.N.Nodup) (hi : X.N[i]? = some n) (hj : X.N[j]? = some t) (hij : i ≠ j) (hln : X.env.kindOf n = some .local) (hlt : Loc X.env.scope t)
    (hbody : ∀ (pn : List (Addr × Obj)) (xe : Value → Shared → Prop) (W : WX), Takes (X.tr pn xe) W → PassesOwn (model X.prog X.w) X.A X.env xe →
      (∀ ev G1, evs ev → G1[i]? = some .any → GS X C (G1.set j (.dat rS ev.word)) rest D → ∀ B H σ, Ok C G1 B H σ → W (ev.val X.mg) none σ H) → GS (X.tr pn xe) C G body { D with nx := wSs X rest D })
    (hs : X.stack = X.env :: X.outer := by rfl) (hf : X.env.frame = some X.env.locals := by rfl) (hgc : Gl X cn := by rfl) (hdb : (cn == ("__debug__" : Str)) = false := by decide) (hg : Gl X fn := by rfl) (hdb2 : (fn == ("__debug__" : Str)) = false := by decide)
    (hdn : (n == ("__debug__" : Str)) = false := by decide) (hcd : (n == ("__classdict__" : Str)) = false := by decide)
    (he : starEach [.Name n np] X.env = (false, eval (.Name n np) X.env) :: starEach [] X.env := by rfl) (hpl : (backTo cpos (starEach [] X.env)).any (·.1) = false := by rfl) (hv : Vis X.env.scope n := by first | exact Or.inl rfl | exact Or.inr (Or.inl rfl) | exact Or.inr (Or.inr rfl))
    (hsw : ∀ (q : Addr) (pn : List (Addr × Obj)), swapsWith (.Call (.Name fn fp) [.Name n np] [] cpos) (some (.Name t tp)) apos.line (X.suite q pn).env = pure false := by intro _ _; rfl) (hft : X.fn t = true ∨ X.env.scope.names.lookup t = some .local := by first | exact .inl rfl | exact .inr rfl) :
    GS X C G (.Try body [.ExceptHandler (some (.Name cn xp)) (some n) [.Assign [.Name t tp] (.Call (.Name fn fp) [.Name n np] [] cpos) apos] hpos] [] [] pos :: rest) D := by
  obtain ⟨S, hS, hSx⟩ := hin.ex
  refine fun B H σ O => w_ps (ps_try_as (c := S) (i := i) (tb := bTr X body) (ts := bSu X [.Assign [.Name t tp] (.Call (.Name fn fp) [.Name n np] [] cpos) apos]) (Wout := Wout) hs hf hN hi hln ⟨hgc, hdb, .inl hS⟩ tk (fun W pn xe tk' hp => ?_) (fun a oe cls d pn hz hfs => ?_)) ?_
  · exact ⟨fun pins s σ H D I h => (pss_w _).run pins s σ H D I (h pn xe tk' hp)⟩
  · exact ⟨fun pins s σ H D I h => (pss_w _).run pins s σ H D I (h oe pn hz hfs)⟩
  · intro pn xe tk' hp
    refine hbody pn xe _ tk' hp (fun ev G1 hev hGi hgs B H σ O => ?_) B H σ O
    refine ⟨true, hSx ev hev, fun _ a na oe pn' hz hfs => ?_, fun q => nomatch q⟩
    have hlt' : i < σ.length := by rw [O.len]; exact lt_get hGi
    refine w_ps (X := X.suite a ((a, oe) :: pn')) (ps_set (X := X.suite a ((a, oe) :: pn')) (i := j) hN hj hlt (pe_which (X := X.suite a ((a, oe) :: pn')) (B := B) F hps hev (show L2H.RoomH k (X.A.mark (some (.ref a))) from ⟨hr.dp, hr.un⟩) List.mem_cons_self hz hfs hg hm hk hb (pa_cons (pe_var hi hv hdn hcd) pa_nil he) hdb2 he hpl) (hsw _ _) hft) ?_
    refine ⟨List.getElem?_set_self hlt', O.g.kn, O.g.sm, fun B' H' g => ?_⟩
    refine ⟨fun pins s I => pss_nil.run pins s _ _ _ I ?_⟩
    have O1 := (O.after g).storeD (i := j) (r := rS) (a := ev.word) (v := .str ev.word) rfl
    have e1 : (((σ.set i (some (V.ref a))).set j (some (.str ev.word))).set i none) = (σ.set j (some (.str ev.word))).set i none := by
      rw [List.set_comm _ _ hij, List.set_set]
    show wSs X rest D ((((σ.set i (some (V.ref a))).set j (some (.str ev.word))).set i none)) H'
    rw [e1]
    have O2 := O1.forget i none
    have e2 : (G1.set j (.dat rS ev.word)).set i .any = G1.set j (.dat rS ev.word) := by
      refine List.ext_getElem? fun m => ?_
      by_cases q : i = m
      · subst q
        rw [List.getElem?_set_self (by rw [List.length_set]; exact lt_get hGi), List.getElem?_set_ne (Ne.symm hij), hGi]
      · rw [List.getElem?_set_ne q]
    rw [e2] at O2
    exact hgs B' H' _ O2
end
end TL

namespace TL
open PySem PySem.Spec PyProof.Rows L2
section
variable {ι α : Type} {mg : Str → Option Value} {args : ι → List Ent} {m : ι → Except Er α} {res : α → Ent} {y : ι}
theorem endE {v : α} {G : List Ent} (h : m y = .ok v) : EndOk (FS.ofE mg args m res) y G (res v) := ⟨(ofE_ok h).2.symm, (ofE_ok h).1, posted_any⟩
theorem thenE_err {α β : Type} {x : Except Er α} {k : α → Except Er β} {e : Er} (h : thenE x k = .error e) : x = .error e ∨ ∃ v, x = .ok v ∧ k v = .error e := by
  cases x with
  | ok v => exact .inr ⟨v, rfl, h⟩
  | error e' => exact .inl (by cases h; rfl)
def EI {α : Type} (L : List Er) (x : Except Er α) : Prop := ∀ e, x = .error e → e ∈ L
theorem ei_ok {α : Type} {L : List Er} {v : α} : EI L (.ok v) := fun _ h => nomatch h
theorem ei_er {α : Type} {L : List Er} {e : Er} (h : e ∈ L) : EI L (.error e : Except Er α) := fun _ q => by cases q; exact h
theorem ei_ite {α : Type} {L : List Er} {c : Prop} [Decidable c] {x y : Except Er α} (h1 : EI L x) (h2 : EI L y) : EI L (if c then x else y) := by
  split
  · exact h1
  · exact h2
theorem ei_then {α β : Type} {L : List Er} {x : Except Er α} {k : α → Except Er β} (h1 : EI L x) (h2 : ∀ v, EI L (k v)) : EI L (thenE x k) := fun e h => by
  rcases thenE_err h with h | ⟨v, _, h⟩
  · exact h1 e h
  · exact h2 v e h
def okv {α : Type} [Inhabited α] (x : Except Er α) : α := match x with
  | .ok v => v
  | .error _ => default
def isOk {α : Type} (x : Except Er α) : Bool := match x with
  | .ok _ => true
  | .error _ => false
theorem okv_of {α : Type} [Inhabited α] {x : Except Er α} (h : isOk x = true) : x = .ok (okv x) := by
  cases x with
  | ok v => rfl
  | error e => cases h
def caseE {α ρ : Type} (x : Except Er α) (k : α → ρ) (j : Er → ρ) : ρ := match x with
  | .ok v => k v
  | .error e => j e
theorem caseE_ok {α ρ : Type} {x : Except Er α} {k : α → ρ} {j : Er → ρ} {v : α} (h : x = .ok v) : caseE x k j = k v := by rw [h]; rfl
theorem caseE_er {α ρ : Type} {x : Except Er α} {k : α → ρ} {j : Er → ρ} {e : Er} (h : x = .error e) : caseE x k j = j e := by rw [h]; rfl
def FS.orW {ι α : Type} (args : ι → List Ent) (m : ι → Except Er α) (res : α → Ent) : FS ι where
  args := args
  res := fun x => match m x with
    | .ok v => res v
    | .error e => .dat rS e.word
theorem orW_ok {v : α} (h : m y = .ok v) : (FS.orW args m res).res y = res v := by
  unfold FS.orW
  dsimp only
  rw [h]
theorem orW_er {e : Er} (h : m y = .error e) : (FS.orW args m res).res y = .dat rS e.word := by
  unfold FS.orW
  dsimp only
  rw [h]
theorem endW {v : α} {G : List Ent} (h : m y = .ok v) : EndOk (FS.orW args m res) y G (res v) := ⟨(orW_ok h).symm, rfl, posted_any⟩
theorem endWe {e : Er} {G : List Ent} (h : m y = .error e) : EndOk (FS.orW args m res) y G (.dat rS e.word) := ⟨(orW_er h).symm, rfl, posted_any⟩
end
structure WCallee (P : Program) (w : World) (K : PySem.W.Frag) (mg : Str → Option Value) (base : Heap) (fn : Str) (ps : List Str) (evs : Er → Prop) (k : Nat) : Prop where
  ex : ∃ (f : Addr) (fd : FuncData), WhichOk P w K mg base k f fd ps evs ∧ mg fn = some (.ref f) ∧ PySem.W.keepIn K (.ref f) = true ∧ L2.Binds K fd ps []
section
variable {X : Cx} {C : C0} {G G' G0 G1 G2 G3 : List Ent} {α β γ S : Type} {r : Rp α} {s : Rp β} {a b c : Expr} {e : Expr} {es : List Expr} {pos p p2 apos cpos pos' : Pos} {x : Str} {en : Ent} {rest : List Stmt} {D : Ends} {W : WX}
theorem gs_setU {ι : Type} {m : ι → Except Er α} {args : ι → List Ent} {res : α → Ent} {ps : List Str} {k i : Nat} {as : List Arg} {f : Str} {z : Str} {zp : Pos} (c : Callee X.prog X.w X.K X.mg X.base CX0 f ps (FS.orW args m res).sp k) (hr : Room k X.A) (y : ι)
    (ha : XA X C (e :: es) G G1 as) (fit : FitD as (args y)) (hN : X.N.Nodup) (hi : X.N[i]? = some z) (hx : Loc X.env.scope z)
    (hok : ∀ v, m y = .ok v → GS X C (G1.set i (res v)) rest D) (her : ∀ ev, m y = .error ev → GS X C (G1.set i (.dat rS ev.word)) rest D)
    (hs : swapsWith (.Call (.Name f p) (e :: es) [] cpos) (some (.Name z zp)) pos.line X.env = pure false := by rfl) (hf : X.fn z = true ∨ X.env.scope.names.lookup z = some .local := by first | exact .inl rfl | exact .inr rfl)
    (hg : Gl X f := by rfl) (hdbg : (f == ("__debug__" : Str)) = false := by decide) (hst : starEach (e :: es) X.env = (false, eval e X.env) :: starEach es X.env := by rfl) (hpl : (backTo cpos (starEach es X.env)).any (·.1) = false := by rfl) :
    GS X C G (.Assign [.Name z zp] (.Call (.Name f p) (e :: es) [] cpos) pos :: rest) D := by
  cases hm : m y with
  | ok v => exact gs_set hN hi hx (x_call c hr y ha fit (orW_ok hm) rfl hg hdbg hst hpl) (hok v hm) hs hf
  | error ev => exact gs_set hN hi hx (x_call c hr y ha fit (orW_er hm) rfl hg hdbg hst hpl) (her ev hm) hs hf
theorem gs_tryW {evs : Er → Prop} {ps : List Str} {k i j : Nat} {cn fn n t : Str} {body : List Stmt} {Wout : WX} {np fp xp tp : Pos} {hpos apos : Pos} (F : WCallee X.prog X.w X.K X.mg X.base fn ps evs k) (hps : ps.length = 1)
    (hin : ErIn X.K X.mg cn evs) (hr : Room k X.A) (tk : Takes X Wout) (hN : X.N.Nodup) (hi : X.N[i]? = some n) (hj : X.N[j]? = some t) (hij : i ≠ j) (hln : X.env.kindOf n = some .local) (hlt : Loc X.env.scope t)
    (hbody : ∀ (pn : List (Addr × Obj)) (xe : Value → Shared → Prop) (W : WX), Takes (X.tr pn xe) W → PassesOwn (model X.prog X.w) X.A X.env xe →
      (∀ ev G1, evs ev → G1[i]? = some .any → GS X C (G1.set j (.dat rS ev.word)) rest D → ∀ B H σ, Ok C G1 B H σ → W (ev.val X.mg) none σ H) → GS (X.tr pn xe) C G body { D with nx := wSs X rest D })
    (hs : X.stack = X.env :: X.outer := by rfl) (hf : X.env.frame = some X.env.locals := by rfl) (hgc : Gl X cn := by rfl) (hdb : (cn == ("__debug__" : Str)) = false := by decide) (hg : Gl X fn := by rfl) (hdb2 : (fn == ("__debug__" : Str)) = false := by decide)
    (hdn : (n == ("__debug__" : Str)) = false := by decide) (hcd : (n == ("__classdict__" : Str)) = false := by decide)
    (he : starEach [.Name n np] X.env = (false, eval (.Name n np) X.env) :: starEach [] X.env := by rfl) (hpl : (backTo cpos (starEach [] X.env)).any (·.1) = false := by rfl) (hv : Vis X.env.scope n := by first | exact Or.inl rfl | exact Or.inr (Or.inl rfl) | exact Or.inr (Or.inr rfl))
    (hsw : ∀ (q : Addr) (pn : List (Addr × Obj)), swapsWith (.Call (.Name fn fp) [.Name n np] [] cpos) (some (.Name t tp)) apos.line (X.suite q pn).env = pure false := by intro _ _; rfl) (hft : X.fn t = true ∨ X.env.scope.names.lookup t = some .local := by first | exact .inl rfl | exact .inr rfl) :
    GS X C G (.Try body [.ExceptHandler (some (.Name cn xp)) (some n) [.Assign [.Name t tp] (.Call (.Name fn fp) [.Name n np] [] cpos) apos] hpos] [] [] pos :: rest) D := by
  obtain ⟨f, fd, h1, h2, h3, h4⟩ := F.ex
  exact gs_try h1 hps h2 h3 h4 hin hr tk hN hi hj hij hln hlt hbody hs hf hgc hdb hg hdb2 hdn hcd he hpl hv hsw hft
theorem gs_nilT {pn : List (Addr × Obj)} {xe : Value → Shared → Prop} (k : GS X C G rest D) : GS (X.tr pn xe) C G [] { D with nx := wSs X rest D } := fun B H σ O => ⟨fun pins s I => pss_nil.run pins s σ H _ I (k B H σ O)⟩
end
end TL

namespace TL
open PySem PySem.Spec PyProof.Rows L2
section
variable {P : Program} {w : World} {A : Around} {E : Value → Shared → Prop} {s : Shared}
end
section
variable {X : Cx} {C : C0} {G G' G0 G1 G2 G3 : List Ent} {α β γ S : Type} {r : Rp α} {s : Rp β} {a b c : Expr} {e : Expr} {es : List Expr} {pos p p2 apos cpos : Pos} {x : Str}
end
end TL

namespace TL
open PySem PySem.Spec PyProof.Rows L2
section
variable {K : PySem.W.Frag} {h : Heap} {mg : Str → Option Value}
theorem all_nil {p : Er → Prop} : ∀ e, e ∈ ([] : List Er) → p e := fun _ h => absurd h List.not_mem_nil
theorem all_cons {p : Er → Prop} {a : Er} {l : List Er} (h1 : p a) (h2 : ∀ e, e ∈ l → p e) : ∀ e, e ∈ a :: l → p e := fun e h => by
  rcases List.mem_cons.mp h with rfl | h
  · exact h1
  · exact h2 e h
theorem er_at {e : Er} {nm : Str} {C : Addr} (hn : e.name = nm) (g : mg nm = some (.ref C)) (x : PySem.W.excIn K C [.type "ValueError", .type "Exception", .type "BaseException", .type "object"] "ValueError.__new__" = true) (k : PySem.W.keepIn K (.ref C) = true)
    (b : PySem.W.subIn K (.ref C) (.type "BaseException") = some true) (t : PySem.W.typeIn K (.ref C) = some (.type "type")) : ErAt K mg e := by
  subst hn
  exact ⟨C, g, x, k, b, t⟩
theorem er_val {e : Er} {nm : Str} {C : Addr} (hn : e.name = nm) (g : mg nm = some (.ref C)) : e.val mg = .ref C := by
  subst hn
  show (mg e.name).getD .none = .ref C
  rw [g]
  rfl
theorem er_exm {e : Er} {nm : Str} {C S : Addr} (hn : e.name = nm) (g : mg nm = some (.ref C)) (h1 : PySem.W.subIn K (.ref S) (.type "BaseException") = some true) (hd : PySem.W.hasDictIn K S = true) (ht : PySem.W.typeIn K (.ref S) = some (.type "type"))
    (h4 : PySem.W.subIn K (.ref C) (.ref S) = some true) : PySem.W.exmOne K (e.val mg) (.ref S) = some true := by
  rw [er_val hn g]
  exact PySem.W.exm_ref h1 hd ht h4
theorem er_isve {e : Er} {nm : Str} {C : Addr} (hn : e.name = nm) (g : mg nm = some (.ref C)) (c : ExcC K C) (s : PySem.W.subIn K (.ref C) (.type "ValueError") = some true) : IsVE K mg e := by
  refine ⟨?_, ?_⟩
  · subst hn; exact ⟨C, g, c⟩
  · rw [er_val hn g]
    show (if (Value.ref C == Value.type "ValueError") = true then some true else (if PySem.W.kitMeta "ValueError" = true then PySem.W.subIn K (.ref C) (.type "ValueError") else none)) = some true
    rw [if_neg (by intro q; cases beq_iff_eq.mp q), if_pos (by decide +kernel)]
    exact s
theorem er_is_self {e : Er} {nm : Str} {C : Addr} (hn : e.name = nm) (g : mg nm = some (.ref C)) : IsAt K mg e e := by
  refine ⟨C, by subst hn; exact g, ?_⟩
  rw [er_val hn g]
  show (if (Value.ref C == Value.ref C) = true then some true else _) = some _
  rw [if_pos (beq_self_eq_true _), decide_eq_true rfl]
theorem er_is_no {e c : Er} {nm nm2 : Str} {C D : Addr} (hn : e.name = nm) (hn2 : c.name = nm2) (hne : decide (c = e) = false) (g : mg nm = some (.ref C)) (g2 : mg nm2 = some (.ref D)) (ne : (Value.ref C == Value.ref D) = false) (hd : PySem.W.hasDictIn K D = true)
    (ht : PySem.W.typeIn K (.ref D) = some (.type "type")) (s : PySem.W.subIn K (.ref C) (.ref D) = some false) : IsAt K mg e c := by
  refine ⟨D, by subst hn2; exact g2, ?_⟩
  rw [er_val hn g, hne]
  obtain ⟨cd, hc, _⟩ := PySem.W.any_some hd
  have e2 : ((PySem.W.clsIn K D).isSome && PySem.W.typeIn K (.ref D) == some (.type "type")) = true := by rw [hc, ht] <;> rfl
  show (if (Value.ref C == Value.ref D) = true then some true else (if ((PySem.W.clsIn K D).isSome && PySem.W.typeIn K (.ref D) == some (.type "type")) = true then PySem.W.subIn K (.ref C) (.ref D) else none)) = some false
  rw [ne, if_neg (by decide), if_pos e2]
  exact s
end
end TL

namespace TL
open PySem PySem.Spec PyProof.Rows L2
section
variable {X : Cx} {pins : List (Addr × Obj)} {σ : L2.St} {H : Hp} {s : Shared} {d : Addr} {o : Obj}
end
section
variable {P : Program} {w : World} {K : PySem.W.Frag} {tg : Expr} {d : Addr} {o : Obj} {es : Array DictEntry} {ep : Nat}
end
section
variable {X : Cx} {tg e : Expr} {td : TE} {apos cpos : Pos}
end
end TL

namespace TL
open PySem PySem.Spec PyProof.Rows L2
def C0.fix (C : C0) (d : Addr) (u : HO) (o : Obj) : C0 := ⟨upd C.B0 d u, upd C.H0 d (.frz o u), C.ms, C.lk, C.B1⟩
structure FixOk (C : C0) (d : Addr) (u : HO) (o : Obj) : Prop where
  dct : isDct u = true
  b0 : ∀ x, C.B0 d = some x → x = u
  h0 : C.H0 d = none ∨ (C.B0 d = some u ∧ (C.H0 d = some u ∨ C.H0 d = some (.frz o u)))
section
variable {C : C0} {G : List Ent} {B H : Hp} {σ : L2.St} {d : Addr} {u : HO} {o : Obj}
end
section
variable {C : C0} {G G1 : List Ent} {α : Type} {r : Rp α} {te : TE}
end
end TL

namespace TL
open PySem PySem.Spec PyProof.Rows L2
section
variable {X : Cx} {C : C0} {G G' G0 G1 G2 G3 : List Ent} {α β γ S ρ : Type} {r : Rp α} {s : Rp β} {a b c : Expr} {e it elt : Expr} {es : List Expr} {body : List Stmt} {pos p p2 apos cpos : Pos} {x y : Str} {en : Ent} {rest : List Stmt} {D : Ends} {as : List α} {scope : Scope} {wi : TI} {g : TG} {tg : Expr}
structure WkD (X : Cx) (C : C0) (tg it : Expr) (G G' : List Ent) (r : Rp α) (as : List α) where
  wi : TI
  pi : PI X tg it wi
  src : SrcD C wi G G' r as
  fs : ∀ x, foldedSetIterable it X.env x = pure x
def Wk.d (w : Wk X C tg it G G1 r as) : WkD X C tg it G G1 r as := ⟨w.wi, w.pi, w.src.d, w.fs⟩
theorem x_lcP0 {n m : Str} {tp tp2 tt : Pos} {kk : Nat} {bs : List (α × β)} {f : α × β → γ} {t : Rp γ} (i j : Nat) (w : WkD X C (.Tuple [.Name n tp, .Name m tp2] kk tt) it G G0 (rP r s) bs) (no : NoOwn G0 [i, j])
    (he : ∀ (C1 : C0) (v : α × β), v ∈ bs → ∀ s0 H0 c0 cl fp, XE (Cx.bl X scope s0 H0 c0 cl fp) C1 elt ((G0.set i (.dat r v.1)).set j (.dat s v.2)) ((G0.set i (.dat r v.1)).set j (.dat s v.2)) (.dat t (f v)))
    (hij : i ≠ j) (hN : X.N.Nodup) (ok : BlkOk X.N X.env.scope scope [(n, i), (m, j)]) (hg : ∀ (s : Shared) (H : Hp) (c0 : Addr) (cl : List (Str × Addr)) (fp : List Addr), PG (X.blk s H scope (compEnvC scope cl c0 X.env) fp) (.Tuple [.Name n tp, .Name m tp2] kk tt) (gTup X.K 2 (gCons (gName i) (gCons (gName j) gNil)))) (hc : X.calm = true := by rfl) :
    XE X C (.ListComp elt [⟨(.Tuple [.Name n tp, .Name m tp2] kk tt), it, [], 0⟩] scope pos) G G0 (.own false t (bs.map f)) := by
  have h := ev_lcD (C := C) (vs := [i, j]) (tt := tYes) (te := bE X scope elt) (g := gTup X.K 2 (gCons (gName i) (gCons (gName j) gNil))) (s := t) w.src (fun _ => true) f no fun C1 v hv => ⟨_, tgc_pair hij, fun B H σ O Q q => q B H O (Same.refl _), fun k hk => by
    rw [List.getElem?_set_ne (fun z => hk (by rw [← z]; exact List.mem_cons_of_mem _ (List.mem_singleton.mpr rfl))), List.getElem?_set_ne (fun z => hk (by rw [← z]; exact List.mem_cons_self))], fun hq => bE_of (he C1 v hv)⟩
  rw [show bs.filter (fun _ => true) = bs from List.filter_eq_self.mpr fun _ _ => rfl] at h
  exact x_of (pe_lc (own := [(n, i), (m, j)]) hc hN w.pi ok hg (fun _ _ _ _ _ => pts_nil) pe_b w.fs) h
theorem SrcD.le {G' : List Ent} (h : SrcD C wi G G0 r as) (l : Le G0 G') : SrcD C wi G G' r as := fun B H σ O R q => h B H σ O R fun J B' H' C' O' up s hz hJ => q J B' H' C' (O'.le l) up s hz hJ
end
section
variable {X : Cx} {C : C0} {G G' G0 G1 G2 G3 : List Ent} {a b c : Expr} {es : List Expr} {pos p p2 apos cpos : Pos}
theorem x_intB {k : Bool} (hm : X.mg "int" = none) (ha : XE X C a G G1 (.dat TL.rB k)) (hg : Gl X "int" := by rfl) (he : starEach [a] X.env = (false, eval a X.env) :: starEach [] X.env := by rfl) : XE X C (.Call (.Name "int" p) [a] [] pos) G G1 (.dat TL.rI (if k then 1 else 0)) :=
  x_of (pe_callTy call_int1 hg hm (by decide +kernel) (pa_cons (pe_w a) pa_nil he) (he := he)) (ev_cb1 (s := TL.rI) ha fun B H σ x O hx Q q => .inr ⟨k, by rw [show x = V.bl k from hx], q _ _ _ O (Same.refl _) rfl⟩)
end
end TL

namespace TL
open PySem PySem.Spec PyProof.Rows L2
instance : RO (TL.rL TL.rI) where
  lt := fun a b => decide (a < b)
  lt_eq := fun a b => by
    show PyProof.Rows.lexLt PyProof.Rows.itemOrd (PySem.W.keyToks (.list (a.map .int))) (PySem.W.keyToks (.list (b.map .int))) = _
    have := PySem.W.dataLt_ints a b
    rw [PySem.W.rowLt] at this
    rw [PySem.W.keyToks, PySem.W.keyToks]
    exact this
  al := fun a b => by
    show PySem.W.alike (.list (a.map .int)) (.list (b.map .int)) = true
    rw [PySem.W.alike]; exact PySem.W.alike_ints a b
section
variable {κ α : Type} [DecidableEq κ]
end
end TL

namespace TL
open PySem PySem.Calls PyProof.Rows PyProof.V PySem.Spec
section
variable {prog : Program} {w : World} {K : Type} [DecidableEq K] {knd : HeapKind prog w K} {A : Around} {E : Value → Shared → Prop} {s : Shared}
inductive HitsH (prog : Program) (w : World) (A : Around) (s : Shared) (ys : List (K × Addr × Value)) : List (K × Addr × Value) → Bool → Prop
  | nil : HitsH prog w A s ys [] true
  | miss {k : K} {p : Addr × Value} {r : List (K × Addr × Value)} : atKey ys k = none → HitsH prog w A s ys ((k, p) :: r) false
  | hit {k : K} {p q : Addr × Value} {r : List (K × Addr × Value)} {e b : Bool} : atKey ys k = some q → SeqAt.EqP prog w A s p.2 q.2 e → HitsH prog w A s ys r b → HitsH prog w A s ys ((k, p) :: r) (e && b)
theorem HitsH.inv {ys : List (K × Addr × Value)} {k : K} {p : Addr × Value} {r : List (K × Addr × Value)} {b : Bool} (h : HitsH prog w A s ys ((k, p) :: r) b) :
    (atKey ys k = none ∧ b = false) ∨ ∃ q e b', atKey ys k = some q ∧ SeqAt.EqP prog w A s p.2 q.2 e ∧ HitsH prog w A s ys r b' ∧ b = (e && b') := by
  cases h with
  | miss hn => exact .inl ⟨hn, rfl⟩
  | hit hy he hr => exact .inr ⟨_, _, _, hy, he, hr, rfl⟩
theorem samePairsH {nm : String} {a b : Addr} {xs ys : List (K × Addr × Value)} {r : Bool} {Q : Bool → Shared → Prop} (ha : (a == sysModules) = false) (hb : (b == sysModules) = false)
    (da : s.heap.DictOfH knd a xs) (db : s.heap.DictOfH knd b ys) (hu : knd.room A) (hits : xs.length = ys.length → HitsH prog w A s ys xs r) (h : Q (xs.length == ys.length && r) s) :
    wpAny (model prog w) A (Builtin.Dict.samePairs nm a b) Q E s := by
  obtain ⟨oa, es, ep, hoa, _, hda, hka, hia, _⟩ := da
  obtain ⟨ob, es', ep', hob, _, hdb, hkb, hib, hnb⟩ := db
  have hla : xs.length = es.size := (size_of_entries hka).symm
  have hlb : ys.length = es'.size := (size_of_entries hkb).symm
  rw [hla, hlb] at h
  unfold Builtin.Dict.samePairs Builtin.Dict.showsAll
  rw [if_neg (show ¬ (a == sysModules) = true by rw [ha]; exact Bool.false_ne_true), if_neg (show ¬ (b == sysModules) = true by rw [hb]; exact Bool.false_ne_true)]
  refine wpAny_bind (wpAny_pure (wpAny_bind (wpAny_pure ?_)))
  refine wpAny_bind (wpAny_dictEntries hoa hda ?_)
  dsimp only
  refine wpAny_bind (wpAny_dictEntries hob hdb ?_)
  by_cases hsz : es.size = es'.size
  case neg =>
    rw [if_pos (by simpa using hsz)]
    have hbf : (es.size == es'.size) = false := by simpa using hsz
    rw [hbf, Bool.false_and] at h
    exact wpAny_bind (wpAny_rule (wpAny_pure h))
  case pos =>
    have h' : Q r s := by simpa [hsz] using h
    have hits' := hits (by rw [hla, hlb]; exact hsz)
    rw [if_neg (by rw [hsz]; simp)]
    refine wpAny_bind (wpAny_dictEpoch hoa hda ?_)
    refine wpAny_bind ?_
    rw [Std.Legacy.Range.forIn_eq_forIn_range']
    simp only [Std.Legacy.Range.size, Nat.sub_zero, Nat.add_sub_cancel, Nat.div_one]
    refine wpAny_forIn_list _
      (fun rest q s' => s' = s ∧ q = (none, ()) ∧ ∃ i, rest = List.range' i (es.size - i) ∧ i ≤ es.size ∧ HitsH prog w A s ys (xs.drop i) r)
      _ ?_ ?_ _ _ ⟨rfl, rfl, 0, by simp, Nat.zero_le _, hits'⟩
    · rintro x rest q s' ⟨rfl, rfl, i, hr, hi, hpre⟩
      have hlt : i < es.size := by
        rcases Nat.lt_or_ge i es.size with h | h
        · exact h
        · rw [Nat.sub_eq_zero_of_le h] at hr; simp at hr
      obtain ⟨rfl, hrest⟩ : x = i ∧ rest = List.range' (i + 1) (es.size - (i + 1)) := by
        have e : es.size - i = (es.size - (i + 1)) + 1 := by omega
        rw [e, List.range'_succ] at hr
        injection hr with h1 h2
        exact ⟨h1, h2⟩
      refine wpAny_bind (wpAny_dictEntries hoa hda ?_)
      have hlt' : x < xs.length := by rw [hla]; exact hlt
      obtain ⟨k, p, hkv⟩ : ∃ k p, xs[x] = (k, p) := ⟨_, _, rfl⟩
      have hdrop : xs.drop x = (k, p) :: xs.drop (x + 1) := by rw [← hkv]; exact List.drop_eq_getElem_cons hlt'
      have hex : es[x]? = some (entryOfKey knd (k, p)) := by
        rw [entry_at hka x, List.getElem?_eq_getElem hlt', hkv]; rfl
      have hkey : knd.is s'.heap k p.1 := hia (k, p) (by rw [← hkv]; exact List.getElem_mem hlt')
      rw [hdrop] at hpre
      rw [hex]
      show wpAny _ _ (holding [Value.ref p.1, p.2] _ >>= _) _ _ _
      refine wpAny_bind (wpAny_holding (wpAny_bind (wpAny_dictFind_heap hu hkey hob hdb hkb hib hnb (fun hno => ?_) (fun j q hj => ?_))))
      · have hn : atKey ys k = none := atKey_none_of_get hno
        rcases hpre.inv with ⟨_, er⟩ | ⟨y, _, _, hy, _⟩
        · rw [er] at h'
          refine wpAny_pure ?_
          show wpAny _ _ (if (!false) = true then _ else _) _ _ _
          rw [if_pos (by decide)]
          exact wpAny_pure (wpAny_pure h')
        · rw [hn] at hy; exact nomatch hy
      · have hv' : atKey ys k = some q := atKey_of_get hnb hj
        refine wpAny_bind (wpAny_dictEntries hob hdb ?_)
        have hej : es'[j]? = some (entryOfKey knd (k, q)) := by rw [entry_at hkb j, hj]; rfl
        rw [hej]
        rcases hpre.inv with ⟨hn, _⟩ | ⟨y, e, b', hy, he, hrr, er⟩
        · rw [hv'] at hn; exact nomatch hn
        · have ey : q = y := Option.some.inj (hv'.symm.trans hy)
          rw [← ey] at he
          refine wpAny_holding (he _ _ ?_)
          cases e with
          | false =>
            rw [er, Bool.false_and] at h'
            show wpAny _ _ (if (!false) = true then _ else _) _ _ _
            rw [if_pos (by decide)]
            exact wpAny_pure (wpAny_pure h')
          | true =>
            rw [Bool.true_and] at er
            rw [← er] at hrr
            show wpAny _ _ (if (!true) = true then _ else _) _ _ _
            rw [if_neg (by decide)]
            refine wpAny_bind (wpAny_dictEpoch hoa hda ?_)
            rw [if_neg (by simp)]
            exact wpAny_pure ⟨rfl, rfl, x + 1, hrest, hlt, hrr⟩
    · rintro q s' ⟨rfl, rfl, i, hr, hi, hpre⟩
      have hin : i = es.size := by
        rcases Nat.lt_or_ge i es.size with h | h
        · have e : es.size - i = (es.size - (i + 1)) + 1 := by omega
          rw [e, List.range'_succ] at hr; exact nomatch hr
        · exact Nat.le_antisymm hi h
      refine wpAny_pure ?_
      rw [hin, ← hla, List.drop_length] at hpre
      cases hpre
      exact h'
theorem rcH_dicts {a b : Addr} {xs ys : List (K × Addr × Value)} {r : Bool} (ha : (a == sysModules) = false) (hb : (b == sysModules) = false)
    (da : s.heap.DictOfH knd a xs) (db : s.heap.DictOfH knd b ys) (hu : A.units < cLine) (hr : knd.room A.in1) (hits : xs.length = ys.length → HitsH prog w A.in1 s ys xs r) (E Q : Value → Shared → Prop) (h : Q (.bool (xs.length == ys.length && r)) s) : wpAny (model prog w) A (richCompare .Eq (.ref a) (.ref b)) Q E s := by
  refine wpAny_richCompare_same_room (op := .Eq) da.typeIs db.typeIs PySem.F.slot_dict_eq (wpAny_call_entry PySem.F.slot_dict_eq da.typeIs PySem.F.entry_dict_eq ?_ (PySem.F.args_dict_eq_2 _ _)) hu
  show wpAny _ _ (Builtin.Dict.dictSlotArgs "__eq__" ⟨[.ref a, .ref b], []⟩ >>= _) _ _ s
  refine wpAny_bind ?_
  unfold Builtin.Dict.dictSlotArgs
  refine wpAny_bind (wpAny_notOrdered_dict da.typeIs ?_)
  show wpAny _ _ (pure (Value.ref a, Value.ref b)) _ _ s
  refine wpAny_pure ?_
  refine wpAny_bind (wpAny_isInstance (T := "dict") db.typeIs PySem.F.sub_dict_dict ?_)
  simp only [Bool.not_true, Bool.false_eq_true, if_false]
  refine wpAny_bind (wpAny_pure (wpAny_bind (wpAny_pure ?_)))
  refine wpAny_bind (samePairsH ha hb da db hr hits ?_)
  refine wpAny_pure ⟨_, rfl, ?_, ?_⟩
  · exact fun x => nomatch x
  · simpa using h
end
section
open PySem.SeqAt
open AutoSeq1 (wpAny_loadPart')
open MeetsSeq MeetsSeq2 MeetsSeq3 SeqRoads2
variable {prog : Program} {w : World}
end
end TL

namespace TL
open PySem PySem.Spec PyProof.Rows L2
def deq {κ α : Type} [DecidableEq κ] (q : α → α → Bool) (d e : List (κ × α)) : Bool := d.length == e.length && d.all fun kv => match dget e kv.1 with
  | some v => q kv.2 v
  | none => false
class RQ {α : Type} (r : Rp α) where
  q : α → α → Bool
  dep : Nat
  ev : ∀ {X : Cx} {pins : List (Addr × Obj)} {σ : L2.St} {H B : Hp} {s : Shared} {A : Around} {x y : V} {a b : α} {v u : Value}, Inv X pins σ H s → Kn B H → A.units + dep < cLine → r.rel B x a → r.rel B y b → RelV x v → RelV y u → SeqAt.EqP X.prog X.w A s v u (q a b)
  sm : ∀ {X : Cx} {pins : List (Addr × Obj)} {σ : L2.St} {H B : Hp} {s : Shared} {x : V} {a b : α} {v : Value}, Inv X pins σ H s → Kn B H → r.rel B x a → r.rel B x b → RelV x v → q a b = true
instance {α : Type} [DecidableEq α] {r : Rp α} [RD r] : RQ r where
  q := fun a b => decide (a = b)
  dep := RD.dep r
  ev := fun {X pins σ H B s A x y a b v u} I kn hu ha hb rx ry => by
    obtain ⟨as, r1⟩ := Dp.reads I (RD.d r a) x v (RD.dp kn ha) rx
    obtain ⟨bs, r2⟩ := Dp.reads I (RD.d r b) y u (RD.dp kn hb) ry
    have h := SeqAt.eqAt_reads _ _ A s v u as bs r1 r2 (RD.lay a) (RD.lay b) (by
      have := RD.dle (r := r) a
      have : min (RD.d r a).depth (RD.d r b).depth ≤ (RD.d r a).depth := Nat.min_le_left _ _
      omega)
    rw [RD.eqv] at h
    exact h.eqP
  sm := fun {X pins σ H B s x a b v} I kn ha hb rx => by
    obtain ⟨as, r1⟩ := Dp.reads I (RD.d r a) x v (RD.dp kn ha) rx
    obtain ⟨bs, r2⟩ := Dp.reads I (RD.d r b) x v (RD.dp kn hb) rx
    have e := SeqAt.Reads.unique _ _ v as bs (RD.lay a) r1 r2
    rw [← RD.eqv (r := r), ← e]
    exact SeqAt.eqv_refl _ (RD.lay a)
section
variable {α : Type} {r : Rp α} [RQ r] {X : Cx} {pins : List (Addr × Obj)} {σ : L2.St} {H B : Hp} {s : Shared}
theorem hits_dt (I : Inv X pins σ H s) (kn : Kn B H) {A : Around} (hu : A.units + RQ.dep r < cLine) {kvs2 : List (List Key × V)} {e : List (List Int × α)} {ys : List (List Key × Addr × Value)} (r2 : DTr r B kvs2 e) (k2 : KT H kvs2 ys) :
    ∀ {kvs : List (List Key × V)} {d : List (List Int × α)} {xs : List (List Key × Addr × Value)}, DTr r B kvs d → KT H kvs xs → HitsH X.prog X.w A s ys xs (d.all fun kv => match dget e kv.1 with
      | some v => RQ.q r kv.2 v
      | none => false)
  | _, _, _, .nil, .nil => .nil
  | _, _, _, .cons (a := p) (b := kv) h t, .cons (b := x) h' t' => by
    have ih := hits_dt I kn hu r2 k2 t t'
    obtain ⟨k, a, u⟩ := x
    obtain ⟨h1, h2⟩ := h
    obtain ⟨g1, g2, g3⟩ := h'
    have ek : k = tk kv.1 := g1.symm.trans h1
    obtain ⟨d1, d2⟩ := DR.get (f := tk) tk_inj kv.1 r2
    rw [List.all_cons]
    cases c : dget e kv.1 with
    | none =>
      have hn : atKey ys k = none := by
        have z := k2.val k
        rw [ek, d2 c] at z
        rw [ek]
        cases w : atKey ys (tk kv.1) with
        | none => rfl
        | some q => rw [w] at z; cases z
      rw [Bool.false_and]
      exact .miss hn
    | some v2 =>
      obtain ⟨x2, c1, c2⟩ := d1 v2 c
      have z := k2.val k
      rw [ek, c1] at z
      obtain ⟨w', hw, rw'⟩ := z.some_of
      obtain ⟨q, hq, hq2⟩ := Option.map_eq_some_iff.mp hw
      rw [← hq2] at rw'
      exact .hit (by rw [ek]; exact hq) (RQ.ev I kn hu h2 c2 g3 rw') ih
theorem dt_same (I : Inv X pins σ H s) (kn : Kn B H) {kvs2 : List (List Key × V)} {e : List (List Int × α)} {ys : List (List Key × Addr × Value)} (r2 : DTr r B kvs2 e) (k2 : KT H kvs2 ys) (nd : (ys.map (·.1)).Nodup) :
    ∀ {kvs : List (List Key × V)} {d : List (List Int × α)} {xs : List (List Key × Addr × Value)}, DTr r B kvs d → KT H kvs xs → (∀ p ∈ kvs, p ∈ kvs2) → (d.all fun kv => match dget e kv.1 with
      | some v => RQ.q r kv.2 v
      | none => false) = true
  | _, _, _, .nil, .nil, _ => rfl
  | _, _, _, .cons (a := p) (b := kv) h t, .cons (b := x) h' t', hm => by
    have ih := dt_same I kn r2 k2 nd t t' fun p hp => hm p (List.mem_cons_of_mem _ hp)
    obtain ⟨h1, h2⟩ := h
    obtain ⟨g1, g2, g3⟩ := h'
    rw [List.all_cons, ih, Bool.and_true]
    have hp := hm p List.mem_cons_self
    have kd : (kvs2.map (·.1)).Nodup := by
      have e1 : kvs2.map (·.1) = ys.map (·.1) := by
        clear hm ih t t' hp nd r2
        unfold KT at k2
        induction k2 with
        | nil => rfl
        | cons h _ ih => rw [List.map_cons, List.map_cons, ih, h.1]
      rw [e1]; exact nd
    have hv : valV kvs2 (tk kv.1) = some p.2 := by
      have : ∀ {l : List (List Key × V)}, (l.map (·.1)).Nodup → p ∈ l → valV l p.1 = some p.2 := by
        intro l
        induction l with
        | nil => intro _ h; cases h
        | cons z l ih2 =>
          intro hn hz
          rw [List.map_cons, List.nodup_cons] at hn
          rcases List.mem_cons.mp hz with rfl | hz
          · exact valV_pos rfl
          · rw [valV_neg (fun y => hn.1 (y ▸ List.mem_map.mpr ⟨p, hz, rfl⟩))]
            exact ih2 hn.2 hz
      rw [← h1]; exact this kd hp
    obtain ⟨d1, d2⟩ := DR.get (f := tk) tk_inj kv.1 r2
    cases c : dget e kv.1 with
    | none => rw [d2 c] at hv; cases hv
    | some v2 =>
      obtain ⟨x2, c1, c2⟩ := d1 v2 c
      rw [hv] at c1; cases c1
      exact RQ.sm I kn h2 c2 g3
theorem kt_len {kvs : List (List Key × V)} {xs : List (List Key × Addr × Value)} (h : KT H kvs xs) : xs.length = kvs.length := (Paired.length h).symm
theorem dt_rc (I : Inv X pins σ H s) (kn : Kn B H) {A : Around} (hu : A.units + (RQ.dep r + 2) < cLine) {a b : Addr} {d e : List (List Int × α)} (ha : (rDT r).rel B (.ref a) d) (hb : (rDT r).rel B (.ref b) e) (E Q : Value → Shared → Prop) (q : Q (.bool (deq (RQ.q r) d e)) s) :
    wpAny (model X.prog X.w) A (richCompare .Eq (.ref a) (.ref b)) Q E s := by
  obtain ⟨p1, ks, e1, e2, e3⟩ := ha
  obtain ⟨p2, ls, f1, f2, f3⟩ := hb
  cases e1; cases f1
  obtain ⟨_, ya, xs, ka, da⟩ := dt_rd I.hok (kn.rd e2)
  obtain ⟨_, yb, ys, kb, db⟩ := dt_rd I.hok (kn.rd f2)
  refine rcH_dicts ya yb da db (by omega) (show A.in1.units < cLine from by show A.units + 1 < cLine; omega) (fun _ => hits_dt I kn (A := A.in1) (by show A.units + 1 + _ < cLine; omega) f3 kb e3 ka) E Q ?_
  rw [kt_len ka, kt_len kb, Paired.length e3, Paired.length f3]
  exact q
instance : RQ (rDT r) where
  q := deq (RQ.q r)
  dep := RQ.dep r + 2
  ev := fun {X pins σ H B s A x y a b v u} I kn hu ha hb rx ry => by
    obtain ⟨p1, ks, e1, e2, e3⟩ := id ha
    obtain ⟨p2, ls, f1, f2, f3⟩ := id hb
    subst e1 f1
    cases (show v = Value.ref p1 from rx)
    cases (show u = Value.ref p2 from ry)
    by_cases c : p1 = p2
    · subst c
      rw [e2] at f2; cases f2
      obtain ⟨_, ya, xs, ka, da⟩ := dt_rd I.hok (kn.rd e2)
      obtain ⟨_, _, _, _, _, _, _, _, nd⟩ := da
      have : deq (RQ.q r) a b = true := by
        unfold deq
        rw [dt_same I kn f3 ka nd e3 ka (fun _ h => h), Bool.and_true, ← Paired.length e3, ← Paired.length f3]
        exact beq_self_eq_true _
      rw [this]
      exact (SeqAt.EqAt.same _).eqP
    · exact SeqAt.eqP_refs c fun E Q q => dt_rc I kn hu ha hb E Q q
  sm := fun {X pins σ H B s x a b v} I kn ha hb rx => by
    obtain ⟨p1, ks, e1, e2, e3⟩ := id ha
    obtain ⟨p2, ls, f1, f2, f3⟩ := id hb
    subst e1
    cases f1
    rw [e2] at f2; cases f2
    obtain ⟨_, ya, xs, ka, da⟩ := dt_rd I.hok (kn.rd e2)
    obtain ⟨_, _, _, _, _, _, _, _, nd⟩ := da
    unfold deq
    rw [dt_same I kn f3 ka nd e3 ka (fun _ h => h), Bool.and_true, ← Paired.length e3, ← Paired.length f3]
    exact beq_self_eq_true _
end
section
variable {α β γ : Type} {r : Rp α} {s : Rp β} {t : Rp γ} [RQ r] [RQ s] [RQ t] {X : Cx} {pins : List (Addr × Obj)} {σ : L2.St} {H B : Hp} {sh : Shared}
def q2 (r : Rp α) (s : Rp β) [RQ r] [RQ s] (a b : α × β) : Bool := RQ.q r a.1 b.1 && RQ.q s a.2 b.2
def q3 (r : Rp α) (s : Rp β) (t : Rp γ) [RQ r] [RQ s] [RQ t] (a b : α × β × γ) : Bool := RQ.q r a.1 b.1 && (RQ.q s a.2.1 b.2.1 && RQ.q t a.2.2 b.2.2)
end
section
variable {X : Cx} {α β γ : Type} {r : Rp α} {s : Rp β} {t : Rp γ} [RQ r] [RQ s] [RQ t]
end
end TL

namespace TL
open PySem PySem.Spec PyProof.Rows L2
section
variable {X : Cx}
end
end TL

namespace TL
open PySem PySem.Spec PyProof.Rows L2
def hk (k : List Int) : Int := reduceHash (Builtin.Tuple.tupleHashOf (k.map hashInt))
section
variable {X : Cx} {C : C0} {G G' G0 G1 G2 G3 : List Ent} {α β γ : Type} {r : Rp α} {s : Rp β} {t : Rp γ} {a b c : Expr} {e : Expr} {es : List Expr} {pos p p2 apos cpos : Pos} {x : Str}
end
end TL

namespace TL
open PySem PySem.Spec PyProof.Rows L2
section
variable {X : Cx}
end
section
variable {X : Cx} {C : C0} {G G' G0 G1 G2 G3 : List Ent} {α β γ S : Type} {r : Rp α} {s : Rp β} {a b c : Expr} {e : Expr} {es : List Expr} {pos p p2 apos cpos : Pos} {x : Str}
theorem x_divW {i j : Int} (ha : XE X C a G G1 (.dat TL.rI i)) (hb : XE X C b G1 G2 (.dat TL.rI j)) (hc : CDivW i j) : XE X C (.BinOp a .FloorDiv b pos) G G2 (.dat TL.rI (i / j)) := x_of (pe_op op_fdivW (pe_w a) (pe_w b)) (ev_I ha hb hc fun _ => rfl)
theorem t_andK {k j : Bool} {Gj Ga Gb : List Ent} (ha : XT X C a G Ga k) (hb : k = true → XT X C b Ga Gb j) (Gs : S → List Ent) (z1 z2 : S) (e1 : Gb = Gs z1) (e2 : Ga = Gs z2) (hG : Gj = Gs (if k = true then z1 else z2)) : XT X C (.BoolOp .And [a, b] pos) G Gj (k && j) := by
  subst hG e1 e2
  refine t_of (PW.pt (pw_and (pt_w a) (pw_and1 (pt_w b)))) fun B H σ O Q q => ha B H σ O _ fun B1 H1 O1 s1 => ?_
  cases k with
  | false => exact iteF (q _ _ O1 s1)
  | true => exact iteT (hb rfl B1 H1 σ O1 _ fun B2 H2 O2 s2 => q _ _ O2 (s1.trans s2))
end
end TL

namespace TL
open PySem PySem.Spec PyProof.Rows L2
section
variable {P : Program} {w : World} {A : Around} {E : Value → Shared → Prop} {s : Shared}
end
section
variable {X : Cx} {C : C0} {G G1 : List Ent} {a : Expr} {pos p p2 cpos : Pos}
end
section
variable {X : Cx} {C : C0} {G : List Ent} {α : Type} {r : Rp α} {rest : List Stmt} {D : Ends}
end
end TL

namespace TL
open PySem PySem.Spec PyProof.Rows L2
section
variable {α : Type} {r : Rp α} [RQ r] {X : Cx} {pins : List (Addr × Obj)} {σ : L2.St} {H B : Hp} {s : Shared}
end
section
variable {X : Cx} {C : C0} {G G1 G2 : List Ent} {α : Type} {r : Rp α} {a b : Expr} {pos : Pos} {te ta : TE}
end
end TL

namespace TL
open PySem PySem.Spec PyProof.Rows L2
section
variable {prog : Program} {w : World} {K : Type} [DecidableEq K] {knd : HeapKind prog w K} {A : Around} {E : Value → Shared → Prop} {s : Shared}
end
section
variable {X : Cx} {C : C0} {G G' G0 G1 G2 G3 : List Ent} {α β γ S : Type} {r : Rp α} {s : Rp β} {a b c : Expr} {e : Expr} {es : List Expr} {pos p p2 apos cpos : Pos} {x : Str}
instance : RD (TL.rO TL.rI) where
  d := fun o => match o with | none => .none | some i => .int i
  dp := fun {K B H v a} _ h => by
    cases a with
    | none => cases (show v = V.non from h); exact .non
    | some i => cases (show v = V.int i from h); exact .int _
  lay := fun a => by cases a <;> rfl
  dep := 0
  dle := fun a => by cases a <;> exact Nat.le_refl _
  eqv := fun a b => by
    cases a with
    | none => cases b <;> simp [PyData.eqv]
    | some i => cases b <;> simp [PyData.eqv, dec_beq]
theorem x_someI {i : Int} (h : XE X C a G G1 (.dat TL.rI i)) : XE X C a G G1 (.dat (rO TL.rI) (some i)) := fun B H σ O Q q => h B H σ O Q fun v B' H' O' s' e ap => q v B' H' O' s' e fun m => nomatch m
theorem x_noneI : XE X C (.Constant .none k p) G G (.dat (rO TL.rI) none) := x_non
end
end TL

namespace TL
open PySem PySem.Spec PyProof.Rows L2
theorem Ok.weaken {C : C0} {G G' : List Ent} {B H : Hp} {σ : L2.St} (O : Ok C G B H σ) (hl : G'.length = G.length) (hw : ∀ (s : Nat) (e : Ent), G'[s]? = some e → e = .any ∨ G[s]? = some e) : Ok C G' B H σ :=
  ⟨O.g, O.h1, O.len.trans hl.symm, fun i e ov hi hs => by
    rcases hw i e hi with rfl | h
    · trivial
    · exact O.ent i e ov h hs, fun i j e e' p hij hi hj hm hm' => by
    rcases hw i e hi with rfl | h
    · cases hm
    · rcases hw j e' hj with rfl | h'
      · cases hm'
      · exact O.sep i j e e' p hij h h' hm hm'⟩
section
variable {X : Cx} {C : C0} {G : List Ent} {β : Type} {rb : Rp β} {vb : β} {b : Expr} {es : List Expr} {pos lp ep apos cpos tp tp2 : Pos} {t : Str} {rest : List Stmt} {D : Ends}
end
end TL

namespace TL
open PySem PySem.Spec PyProof.Rows L2
section
open PySem.Calls PySem.W
variable {prog : Program} {w : World} {A : Around} {E : Value → Shared → Prop} {s : Shared} {β : Type} {vs : List Value} {bs : List β} {enc : β → PyData} {R : Value → β → Prop}
end
section
variable {X : Cx} {C : C0} {G G1 : List Ent} {α : Type} {r : Rp α} {a : Expr} {pos p : Pos}
end
end TL

namespace TL
open PySem PySem.Spec PyProof.Rows L2
section
variable {X : Cx} {C : C0} {G G1 G2 : List Ent} {α : Type} {r : Rp α} {a b : Expr} {pos p : Pos}
end
end TL
namespace TL
open PySem PySem.Spec PyProof.Rows L2
section
variable {X : Cx} {C : C0} {G G1 G2 : List Ent} {a b : Expr} {pos p : Pos}
end
def RaiseOkB (C : C0) (W : WX) (c : Value) : Prop := ∀ (G : List Ent) (B H : Hp) (σ : L2.St), Ok C.bare G B H σ → W c none σ H
section
variable {P : Program} {w : World} {K : PySem.W.Frag} {mg : Str → Option Value} {base : Heap} {ι : Type}
theorem fs_okX2 {F : FS ι} {x qual : Str} {st : Stmt} {f : Addr} {fd : FuncData} {N ps : List Str} {k : Nat} (Fn : Fun K x qual st f fd) (S : FnScope N ps (defScope st)) (hl : ∀ x, (F.args x).length = ps.length)
    (body : ∀ (cdv : Value) (A : Around) (outer : List Env) (s : Shared) (H : Hp) (E : XK) (x : ι) (C : C0) (D : Ends) (W : WX), Room k (A.deeper (envOfC qual (defScope st) s.heap.objs.size f cdv)) →
      Takes (cxOf (L2.CX P w) P w K mg base N qual (defScope st) f cdv A outer s H E) W →
      PassesOwn (model P w) (A.deeper (envOfC qual (defScope st) s.heap.objs.size f cdv)) (envOfC qual (defScope st) s.heap.objs.size f cdv) (cxOf (L2.CX P w) P w K mg base N qual (defScope st) f cdv A outer s H E).xe →
      (∀ G r, EndOk F x G r → RetOk C D G r) → (∀ G, EndOk F x G (.dat TL.rN ()) → ∀ B' H' σ', Ok C G B' H' σ' → D.nx σ' H') →
      (∀ c, F.bad x = some c → RaiseOkB C W c) →
      GS (cxOf (L2.CX P w) P w K mg base N qual (defScope st) f cdv A outer s H E) C (F.args x ++ List.replicate (N.length - ps.length) .any) (defBody st) D) : FnOk P w K mg base (L2.CX P w) (k + 1) f fd ps F.sp := by
  refine Fn.okX S (fun vs H Q E h => ?_) (fun cdv A outer s H vs Q E hr h => ?_)
  · obtain ⟨y, B, ms, O, _⟩ := h
    have := O.len
    rw [List.length_map] at this
    rw [this, hl]
  · obtain ⟨y, B, ms, O, hm, q⟩ := h
    have hlen : vs.length = ps.length := by
      have := O.len
      rw [List.length_map] at this
      rw [this, hl]
    refine ⟨_, pss_w _, ?_⟩
    rw [show L2.start N vs = vs.map some ++ List.replicate (N.length - ps.length) none from by rw [L2.start, hlen]]
    refine body cdv A outer s H E y (C00 B H ms) _ (fun cls d _ H => E cls d H) hr (takes_of rfl rfl rfl rfl) (passes_of rfl) (fun G r hE v B' H' σ' O' hv _ => ?_) (fun G hE B' H' σ' O' => ?_) (fun c hc G B' H' σ' O' => ?_) B H _ (O.start _)
    · obtain ⟨e1, e2, e3⟩ := hE
      subst e1
      rw [e2] at q
      exact q v B' H' O'.g hv (fun p hp => e3.ok (C := C00 B H ms) O' hm p hp)
    · obtain ⟨e1, e2, e3⟩ := hE
      rw [e2] at q
      exact q .non B' H' O'.g (by rw [← e1]; exact ⟨_, rfl, rfl⟩) (fun p hp => e3.ok (C := C00 B H ms) O' hm p hp)
    · rw [hc] at q
      exact q B' H' O'.g
end
end TL

namespace TL
open PySem PySem.Spec PyProof.Rows L2
end TL

namespace PySem
open Sem (wp)
end PySem
namespace TL
open PySem PySem.Spec PyProof.Rows L2
section
variable {X : Cx}
end
section
variable {X : Cx} {C : C0} {G G1 : List Ent} {α : Type} {r : Rp α} {a : Expr} {pos p p2 cpos : Pos}
end
end TL

namespace TL
open PySem PySem.W PySem.Calls PyProof.Rows PyProof.V PySem.Spec
section
variable {prog : Program} {w : World} {A : Around} {E : Value → Shared → Prop} {s : Shared} {es : Array DictEntry}
end
structure RwxG (es : Array DictEntry) (lo : Addr) (h : Heap) (as : List Addr) : Prop where
  rise : as.Pairwise (· < ·)
  above : ∀ a ∈ as, lo < a
  pairs : ∀ (j : Nat) (a : Addr), as[j]? = some a → ∃ hj : j < es.size, h.get? a = some { cls := .type "tuple", data := .seq #[es[j].key, es[j].val] }
theorem RwxG.there {es : Array DictEntry} {lo : Addr} {h : Heap} {as : List Addr} (g : RwxG es lo h as) {a : Addr} (ha : a ∈ as) : a < h.objs.size := by
  obtain ⟨j, hj⟩ := List.mem_iff_getElem?.mp ha
  obtain ⟨_, e⟩ := g.pairs j a hj
  exact Heap.lt_size e
section
variable {prog : Program} {w : World} {A : Around} {s : Shared} {R : Result → Shared → Prop} {es : Array DictEntry} {ep : Nat}
end
section
variable {prog : Program} {w : World} {A : Around} {E : Value → Shared → Prop} {s : Shared} {r d : Addr} {es : Array DictEntry} {ep : Nat}
theorem RwxG.low {lo lo' : Addr} {h : Heap} {as : List Addr} (g : RwxG es lo h as) (hl : lo' ≤ lo) : RwxG es lo' h as := ⟨g.rise, fun a ha => Nat.lt_of_le_of_lt hl (g.above a ha), g.pairs⟩
end
end TL
namespace TL
open PySem PySem.Spec PyProof.Rows L2
section
variable {X : Cx} {e : Expr} {te : TE} {p apos cpos pos : Pos}
end
section
variable {X : Cx} {C : C0} {G G1 : List Ent} {α : Type} {r : Rp α} {a : Expr} {pos p apos cpos : Pos}
end
end TL

namespace TL
open PySem PySem.Spec PyProof.Rows L2
section
variable {α : Type} {r : Rp α} [RQ r] {X : Cx} {pins : List (Addr × Obj)} {σ : L2.St} {H B : Hp} {s : Shared}
theorem hits_dk (I : Inv X pins σ H s) (kn : Kn B H) {A : Around} (hu : A.units + RQ.dep r < cLine) {kvs2 : List (Key × V)} {e : List (Int × α)} {ys : List (Key × Value)} (r2 : DKr r B kvs2 e) (k2 : KV kvs2 ys) :
    ∀ {kvs : List (Key × V)} {d : List (Int × α)} {xs : List (Key × Value)}, DR (Sum.inl : Int → Key) r B kvs d → Paired (fun (p : Key × V) (q : Key × Value) => p.1 = q.1 ∧ RelV p.2 q.2) kvs xs → PySem.W.KeqHitsP X.prog X.w A s ys xs (d.all fun kv => match dget e kv.1 with
      | some v => RQ.q r kv.2 v
      | none => false)
  | _, _, _, .nil, .nil => .nil
  | _, _, _, .cons (a := p) (b := kv) h t, .cons (b := x) h' t' => by
    have ih := hits_dk I kn hu r2 k2 t t'
    obtain ⟨k, u⟩ := x
    obtain ⟨h1, h2⟩ := h
    obtain ⟨g1, g3⟩ := h'
    have ek : k = Sum.inl kv.1 := g1.symm.trans h1
    obtain ⟨d1, d2⟩ := DR.get (f := (Sum.inl : Int → Key)) inl_inj kv.1 (show DR (Sum.inl : Int → Key) r B kvs2 e from r2)
    rw [List.all_cons]
    cases c : dget e kv.1 with
    | none =>
      have hn : valueAt ys k = none := by
        have z := k2.val k
        rw [ek, d2 c] at z
        rw [ek]
        cases w : valueAt ys (Sum.inl kv.1) with
        | none => rfl
        | some q => rw [w] at z; cases z
      rw [Bool.false_and]
      exact .miss hn
    | some v2 =>
      obtain ⟨x2, c1, c2⟩ := d1 v2 c
      have z := k2.val k
      rw [ek, c1] at z
      obtain ⟨w', hw, rw'⟩ := z.some_of
      exact .hit (by rw [ek]; exact hw) (RQ.ev I kn hu h2 c2 g3 rw') ih
theorem dk_same (I : Inv X pins σ H s) (kn : Kn B H) {kvs2 : List (Key × V)} {e : List (Int × α)} (r2 : DKr r B kvs2 e) (nd : (kvs2.map (·.1)).Nodup) :
    ∀ {kvs : List (Key × V)} {d : List (Int × α)} {xs : List (Key × Value)}, DR (Sum.inl : Int → Key) r B kvs d → Paired (fun (p : Key × V) (q : Key × Value) => p.1 = q.1 ∧ RelV p.2 q.2) kvs xs → (∀ p ∈ kvs, p ∈ kvs2) → (d.all fun kv => match dget e kv.1 with
      | some v => RQ.q r kv.2 v
      | none => false) = true
  | _, _, _, .nil, .nil, _ => rfl
  | _, _, _, .cons (a := p) (b := kv) h t, .cons (b := x) h' t', hm => by
    have ih := dk_same I kn r2 nd t t' fun p hp => hm p (List.mem_cons_of_mem _ hp)
    obtain ⟨h1, h2⟩ := h
    obtain ⟨g1, g3⟩ := h'
    rw [List.all_cons, ih, Bool.and_true]
    have hp := hm p List.mem_cons_self
    have hv : valV kvs2 (Sum.inl kv.1) = some p.2 := by
      have : ∀ {l : List (Key × V)}, (l.map (·.1)).Nodup → p ∈ l → valV l p.1 = some p.2 := by
        intro l
        induction l with
        | nil => intro _ h; cases h
        | cons z l ih2 =>
          intro hn hz
          rw [List.map_cons, List.nodup_cons] at hn
          rcases List.mem_cons.mp hz with rfl | hz
          · exact valV_pos rfl
          · rw [valV_neg (fun y => hn.1 (y ▸ List.mem_map.mpr ⟨p, hz, rfl⟩))]
            exact ih2 hn.2 hz
      rw [← h1]; exact this nd hp
    obtain ⟨d1, d2⟩ := DR.get (f := (Sum.inl : Int → Key)) inl_inj kv.1 (show DR (Sum.inl : Int → Key) r B kvs2 e from r2)
    cases c : dget e kv.1 with
    | none => rw [d2 c] at hv; cases hv
    | some v2 =>
      obtain ⟨x2, c1, c2⟩ := d1 v2 c
      rw [hv] at c1; cases c1
      exact RQ.sm I kn h2 c2 g3
theorem dk_rd (I : Inv X pins σ H s) {a : Addr} {kvs : List (Key × V)} (h : Rd H a (.dK kvs)) : (a == sysModules) = false ∧ ∃ vs, KV kvs vs ∧ s.heap.DictOf (mixKind X.prog X.w) a vs := by
  obtain ⟨_, h2, vs, h3, h4⟩ := (show ObjOk X.prog X.w H s.heap a (.dK kvs) from h.ok I.hok)
  exact ⟨h2, vs, h3, h4⟩
theorem kv_len {kvs : List (Key × V)} {xs : List (Key × Value)} (h : KV kvs xs) : xs.length = kvs.length := (Paired.length h).symm
theorem dk_nd {kvs : List (Key × V)} {xs : List (Key × Value)} {a : Addr} (k : KV kvs xs) (d : s.heap.DictOf (mixKind X.prog X.w) a xs) : (kvs.map (·.1)).Nodup := by
  obtain ⟨_, _, _, _, _, _, _, _, nd⟩ := d
  rw [k.keys]; exact nd
theorem dk_rc (I : Inv X pins σ H s) (kn : Kn B H) {A : Around} (hu : A.units + (RQ.dep r + 2) < cLine) {a b : Addr} {d e : List (Int × α)} (ha : (rDK r).rel B (.ref a) d) (hb : (rDK r).rel B (.ref b) e) (E Q : Value → Shared → Prop) (q : Q (.bool (deq (RQ.q r) d e)) s) :
    wpAny (model X.prog X.w) A (richCompare .Eq (.ref a) (.ref b)) Q E s := by
  obtain ⟨p1, ks, e1, e2, e3⟩ := ha
  obtain ⟨p2, ls, f1, f2, f3⟩ := hb
  cases e1; cases f1
  obtain ⟨ya, xs, ka, da⟩ := dk_rd I (kn.rd e2)
  obtain ⟨yb, ys, kb, db⟩ := dk_rd I (kn.rd f2)
  refine PySem.W.rcP_dicts ya yb da db (by omega) (fun _ => hits_dk I kn (A := A.in1) (by show A.units + 1 + _ < cLine; omega) f3 kb e3 ka) E Q ?_
  rw [kv_len ka, kv_len kb, Paired.length e3, Paired.length f3]
  exact q
instance : RQ (rDK r) where
  q := deq (RQ.q r)
  dep := RQ.dep r + 2
  ev := fun {X pins σ H B s A x y a b v u} I kn hu ha hb rx ry => by
    obtain ⟨p1, ks, e1, e2, e3⟩ := id ha
    obtain ⟨p2, ls, f1, f2, f3⟩ := id hb
    subst e1 f1
    cases (show v = Value.ref p1 from rx)
    cases (show u = Value.ref p2 from ry)
    by_cases c : p1 = p2
    · subst c
      rw [e2] at f2; cases f2
      obtain ⟨ya, xs, ka, da⟩ := dk_rd I (kn.rd e2)
      have : deq (RQ.q r) a b = true := by
        unfold deq
        refine (Bool.and_eq_true _ _).mpr ⟨?_, dk_same I kn f3 (dk_nd ka da) e3 ka (fun _ h => h)⟩
        rw [← Paired.length e3, ← Paired.length f3]
        exact beq_self_eq_true _
      rw [this]
      exact (SeqAt.EqAt.same _).eqP
    · exact SeqAt.eqP_refs c fun E Q q => dk_rc I kn hu ha hb E Q q
  sm := fun {X pins σ H B s x a b v} I kn ha hb rx => by
    obtain ⟨p1, ks, e1, e2, e3⟩ := id ha
    obtain ⟨p2, ls, f1, f2, f3⟩ := id hb
    subst e1
    cases f1
    rw [e2] at f2; cases f2
    obtain ⟨ya, xs, ka, da⟩ := dk_rd I (kn.rd e2)
    unfold deq
    refine (Bool.and_eq_true _ _).mpr ⟨?_, dk_same I kn f3 (dk_nd ka da) e3 ka (fun _ h => h)⟩
    rw [← Paired.length e3, ← Paired.length f3]
    exact beq_self_eq_true _
end
structure Row (α : Type) where
  rel : Hp → List V → α → Prop
  mono : ∀ {B B' : Hp} {vs : List V} {a : α}, Same B B' → rel B vs a → rel B' vs a
def row1 {α : Type} (r : Rp α) : Row α := ⟨fun B vs a => ∃ x, vs = [x] ∧ r.rel B x a, fun e h => by obtain ⟨x, h1, h2⟩ := h; exact ⟨x, h1, r.mono e h2⟩⟩
def rowC {α β : Type} (r : Rp α) (R : Row β) : Row (α × β) := ⟨fun B vs a => ∃ x ws, vs = x :: ws ∧ r.rel B x a.1 ∧ R.rel B ws a.2, fun e h => by obtain ⟨x, ws, h1, h2, h3⟩ := h; exact ⟨x, ws, h1, r.mono e h2, R.mono e h3⟩⟩
class RowQ {α : Type} (R : Row α) where
  q : α → α → Bool
  dep : Nat
  n : Nat
  len : ∀ {B : Hp} {vs : List V} {a : α}, R.rel B vs a → vs.length = n
  ev : ∀ {X : Cx} {pins : List (Addr × Obj)} {σ : L2.St} {H B : Hp} {s : Shared} {A : Around} {vs ws : List V} {a b : α} {us zs : List Value}, Inv X pins σ H s → Kn B H → A.units + dep < cLine → R.rel B vs a → R.rel B ws b → Vals vs us → Vals ws zs →
    ∃ e : Nat → Bool, (∀ (j : Nat) (v u : Value), us[j]? = some v → zs[j]? = some u → SeqAt.EqP X.prog X.w A s v u (e j)) ∧ (List.range n).all e = q a b
instance {α : Type} {r : Rp α} [RQ r] : RowQ (row1 r) where
  q := RQ.q r
  dep := RQ.dep r
  n := 1
  len := fun ⟨_, h, _⟩ => by rw [h]; rfl
  ev := fun {X pins σ H B s A vs ws a b us zs} I kn hu ha hb ru rz => by
    obtain ⟨x, rfl, h1⟩ := ha
    obtain ⟨y, rfl, h2⟩ := hb
    obtain ⟨u1, rfl, r1⟩ := vals1 ru
    obtain ⟨z1, rfl, r2⟩ := vals1 rz
    refine ⟨fun _ => RQ.q r a b, fun j v u e1 e2 => ?_, ?_⟩
    · cases j with
      | zero => cases e1; cases e2; exact RQ.ev I kn hu h1 h2 r1 r2
      | succ j => cases e1
    · show (RQ.q r a b && true) = _
      rw [Bool.and_true]
instance {α β : Type} {r : Rp α} {R : Row β} [RQ r] [RowQ R] : RowQ (rowC r R) where
  q := fun a b => RQ.q r a.1 b.1 && RowQ.q R a.2 b.2
  dep := max (RQ.dep r) (RowQ.dep R)
  n := RowQ.n R + 1
  len := fun ⟨_, _, h, _, h3⟩ => by rw [h, List.length_cons, RowQ.len h3]
  ev := fun {X pins σ H B s A vs ws a b us zs} I kn hu ha hb ru rz => by
    obtain ⟨x, xs, rfl, h1, h3⟩ := ha
    obtain ⟨y, ys, rfl, h2, h4⟩ := hb
    cases ru with
    | cons r1 ru =>
      cases rz with
      | cons r2 rz =>
        have m1 := Nat.le_max_left (RQ.dep r) (RowQ.dep R)
        have m2 := Nat.le_max_right (RQ.dep r) (RowQ.dep R)
        obtain ⟨e, he, hq⟩ := RowQ.ev I kn (A := A) (by omega) h3 h4 ru rz
        refine ⟨fun j => match j with
          | 0 => RQ.q r a.1 b.1
          | j + 1 => e j, fun j v u e1 e2 => ?_, ?_⟩
        · cases j with
          | zero => cases e1; cases e2; exact RQ.ev I kn (by omega) h1 h2 r1 r2
          | succ j => exact he j v u e1 e2
        · rw [List.range_succ_eq_map, List.all_cons, List.all_map]
          exact congrArg (fun z => RQ.q r a.1 b.1 && z) hq
section
variable {X : Cx} {α β γ : Type} {R : Row α} [RowQ R]
end
inductive RowA : {α : Type} → List Arg → Row α → α → Prop
  | one {α : Type} {r : Rp α} {a : α} : RowA [.d r a] (row1 r) a
  | cons {α β : Type} {r : Rp α} {a : α} {as : List Arg} {R : Row β} {b : β} : RowA as R b → RowA (.d r a :: as) (rowC r R) (a, b)
theorem RowA.rel {B : Hp} {σ : L2.St} : ∀ {α : Type} {as : List Arg} {R : Row α} {a : α} {vs : List V}, RowA as R a → ArgsOk B σ as vs → R.rel B vs a
  | _, _, _, _, _, .one, .cons h .nil => ⟨_, rfl, h⟩
  | _, _, _, _, _, .cons t, .cons h hs => ⟨_, _, rfl, h, t.rel hs⟩
inductive RowI : {α β : Type} → Nat → Row α → α → Rp β → β → Prop
  | one {α : Type} {r : Rp α} {a : α} : RowI 0 (row1 r) a r a
  | head {α β : Type} {r : Rp α} {R : Row β} {a : α × β} : RowI 0 (rowC r R) a r a.1
  | tail {α β γ : Type} {r : Rp α} {R : Row β} {a : α × β} {k : Nat} {s : Rp γ} {c : γ} : RowI k R a.2 s c → RowI (k + 1) (rowC r R) a s c
theorem RowI.get {B : Hp} : ∀ {α β : Type} {k : Nat} {R : Row α} {a : α} {s : Rp β} {c : β} {vs : List V}, RowI k R a s c → R.rel B vs a → ∃ x, vs[k]? = some x ∧ s.rel B x c
  | _, _, _, _, _, _, _, _, .one, ⟨x, e, h⟩ => ⟨x, by rw [e]; rfl, h⟩
  | _, _, _, _, _, _, _, _, .head, ⟨x, ws, e, h, _⟩ => ⟨x, by rw [e]; rfl, h⟩
  | _, _, _, _, _, _, _, _, .tail t, ⟨x, ws, e, _, h⟩ => by
    obtain ⟨y, h1, h2⟩ := t.get h
    exact ⟨y, by rw [e]; exact h1, h2⟩
section
variable {X : Cx} {C : C0} {G G1 G2 : List Ent} {α β γ : Type} {R : Row α} {a b : Expr} {es : List Expr} {pos p : Pos}
end
end TL

namespace TL
open PySem PySem.Spec PyProof.Rows L2
inductive FitO (i : Nat) (e : Ent) : List Arg → List Ent → Prop
  | here {as : List Arg} {es : List Ent} : FitD as es → FitO i e (.s i :: as) (e :: es)
  | skip {α : Type} {r : Rp α} {a : α} {as : List Arg} {es : List Ent} : FitO i e as es → FitO i e (.d r a :: as) (.dat r a :: es)
theorem FitO.ok {i : Nat} {e : Ent} {C : C0} {B H : Hp} {σ : L2.St} (g : Grow C.ms C.lk C.B0 C.H0 B H) (h1 : Same C.B1 B) (he : ∀ v, σ[i]? = some (some v) → EntOk C B H e (some v)) : ∀ {as : List Arg} {es : List Ent} {vs : List V}, FitO i e as es → ArgsOk B σ as vs → Ok C es B H (vs.map some) ∧ ∀ (j k : Nat) (f f' : Ent), es[j]? = some f → es[k]? = some f' → f.mine = true → f'.mine = true → j = k
  | _, _, _, .here h, .cons a t => by
    have O := FitD.ok g h1 h t
    refine ⟨⟨g, h1, by rw [List.map_cons, List.length_cons, List.length_cons, O.len], fun i e ov hi hs => ?_, fun i j e e' p n hi hj m m' s1 s2 => ?_⟩, fun j k f f' hj hk m m' => ?_⟩
    · cases i with
      | zero => cases hi; cases hs; exact he _ a
      | succ i => exact O.ent i e ov hi hs
    · cases i with
      | zero =>
        cases j with
        | zero => exact n rfl
        | succ j => rw [h.noMine j e' hj] at m'; cases m'
      | succ i => rw [h.noMine i e hi] at m; cases m
    · cases j with
      | zero =>
        cases k with
        | zero => rfl
        | succ k => rw [h.noMine k f' hk] at m'; cases m'
      | succ j => rw [h.noMine j f hj] at m; cases m
  | _, _, _, .skip h, .cons a t => by
    obtain ⟨O, u⟩ := FitO.ok g h1 he h t
    refine ⟨⟨g, h1, by rw [List.map_cons, List.length_cons, List.length_cons, O.len], fun i e ov hi hs => ?_, fun i j e e' p n hi hj m m' s1 s2 => ?_⟩, fun j k f f' hj hk m m' => ?_⟩
    · cases i with
      | zero => cases hi; cases hs; exact ⟨_, rfl, a⟩
      | succ i => exact O.ent i e ov hi hs
    · cases i with
      | zero => cases hi; cases m
      | succ i =>
        cases j with
        | zero => cases hj; cases m'
        | succ j => exact O.sep i j e e' p (fun z => n (by rw [z])) hi hj m m' s1 s2
    · cases j with
      | zero => cases hj; cases m
      | succ j =>
        cases k with
        | zero => cases hk; cases m'
        | succ k => rw [u j k f f' hj hk m m']
section
variable {C : C0} {G G' G0 G1 G2 : List Ent} {ι : Type} {F : FS ι} {ta : TA} {as : List Arg} {E : XK}
end
section
variable {X : Cx} {C : C0} {G G' G0 G1 G2 G3 : List Ent} {α β γ : Type} {r : Rp α} {s : Rp β} {t : Rp γ} {a b c : Expr} {e : Expr} {es : List Expr} {pos p p2 apos cpos : Pos} {x : Str}
end
end TL

namespace TL
open PySem PySem.Spec PyProof.Rows L2 RT
section
variable {X : Cx} {C : C0} {G G' G0 G1 G2 : List Ent} {α β γ : Type} {r : Rp α} {as : List α} {tl : TE} {K : PySem.W.Frag} {it : Expr} {pos p : Pos}
end
end TL

namespace TL
open PySem PySem.Spec PyProof.Rows L2
theorem okX_res {ι α : Type} {mg : Str → Option Value} {args : ι → List Ent} {m : ι → Except Er α} {res : α → Ent} (y : ι) {v : α} (h : m y = .ok v) : (FS.ofE mg args m res).res y = res v := (ofE_ok h).2
theorem okX_bad {ι α : Type} {mg : Str → Option Value} {args : ι → List Ent} {m : ι → Except Er α} {res : α → Ent} (y : ι) {v : α} (h : m y = .ok v) : (FS.ofE mg args m res).bad y = none := (ofE_ok h).1
end TL

namespace TL
open PySem PySem.Spec PyProof.Rows L2
def whileL {S : Type} : Nat → (S → Bool) → (S → S) → S → S
  | 0, _, _, s => s
  | n + 1, t, f, s => if t s = true then whileL n t f (f s) else s
theorem whileL_on {S : Type} {t : S → Bool} {f : S → S} {n : Nat} {s : S} (h : t s = true) : whileL (n + 1) t f s = whileL n t f (f s) := by
  show (if t s = true then _ else _) = _
  rw [h, if_pos rfl]
theorem whileL_off {S : Type} {t : S → Bool} {f : S → S} {s : S} (h : t s = false) : ∀ n, whileL n t f s = s
  | 0 => rfl
  | n + 1 => by
    show (if t s = true then _ else _) = _
    rw [h, if_neg Bool.false_ne_true]
theorem whileL_succ {S : Type} (t : S → Bool) (f : S → S) : ∀ (n : Nat) (s : S), whileL (n + 1) t f s = if t (whileL n t f s) = true then f (whileL n t f s) else whileL n t f s
  | 0, s => rfl
  | n + 1, s => by
    cases h : t s with
    | true => rw [whileL_on (n := n + 1) h, whileL_on (n := n) h]; exact whileL_succ t f n (f s)
    | false => rw [whileL_off h, whileL_off h, h, if_neg Bool.false_ne_true]
theorem whileL_end {S : Type} {t : S → Bool} {f : S → S} (P : S → Prop) (μ : S → Nat) (hP : ∀ s, P s → t s = true → P (f s)) (hμ : ∀ s, P s → t s = true → μ (f s) < μ s) : ∀ (n : Nat) (s : S), P s → μ s ≤ n → t (whileL n t f s) = false
  | 0, s, p, h => by
    rw [whileL]
    cases e : t s with
    | false => rfl
    | true => exact absurd (hμ s p e) (by omega)
  | n + 1, s, p, h => by
    rw [whileL]
    cases e : t s with
    | true =>
      rw [if_pos rfl]
      exact whileL_end P μ hP hμ n (f s) (hP s p e) (by have := hμ s p e; omega)
    | false => rw [if_neg Bool.false_ne_true]; exact e
theorem whileL_inv {S : Type} {t : S → Bool} {f : S → S} (P : S → Prop) (hP : ∀ s, P s → t s = true → P (f s)) : ∀ (n : Nat) (s : S), P s → P (whileL n t f s)
  | 0, s, p => p
  | n + 1, s, p => by
    rw [whileL]
    cases e : t s with
    | true => rw [if_pos rfl]; exact whileL_inv P hP n (f s) (hP s p e)
    | false => rw [if_neg Bool.false_ne_true]; exact p
theorem whileL_stop {S : Type} {t : S → Bool} {f : S → S} {i : Nat} {s : S} (h : t (whileL i t f s) = false) : ∀ n, i ≤ n → whileL n t f s = whileL i t f s
  | 0, hn => by have : i = 0 := by omega
                rw [this]
  | n + 1, hn => by
    rcases Nat.lt_or_ge n i with q | q
    · have : i = n + 1 := by omega
      rw [this]
    · rw [whileL_succ, whileL_stop h n q, h, if_neg Bool.false_ne_true]
section
variable {X : Cx} {C : C0} {G G' G0 G1 G2 : List Ent} {α β γ S : Type} {r : Rp α} {s : Rp β} {a b c : Expr} {e : Expr} {es : List Expr} {body : List Stmt} {pos p p2 apos cpos : Pos} {x : Str} {rest : List Stmt} {D : Ends}
theorem gs_while (n : Nat) (Gs : S → List Ent) (s0 : S) (t : S → Bool) (f : S → S) (h0 : Le G (Gs s0)) (hend : t (whileL n t f s0) = false)
    (ht : ∀ (B1 : Hp) (i : Nat) (z : S), i ≤ n → z = whileL i t f s0 → XT X (C.hold B1) c (Gs z) (Gs z) (t z))
    (hs : ∀ (B1 : Hp) (i : Nat) (z : S), i < n → z = whileL i t f s0 → t z = true → GS X (C.hold B1) (Gs z) body { D with nx := Reach (C.hold B1) (Gs (f z)), ct := Reach (C.hold B1) (Gs (f z)), bk := wSs X rest D })
    (k : GS X C (Gs (whileL n t f s0)) rest D) (hp : PassesOwn (model X.prog X.w) X.A X.env X.xe := by exact PassesOwn.never) : GS X C G (.While c body [] pos :: rest) D := fun B H σ O => by
  refine w_ps (ps_while hp (pt_w c) (pss_w body)) ?_
  refine ⟨fun m σ' H' => ∃ i, i + m = n ∧ Reach (C.hold B) (Gs (whileL i t f s0)) σ' H', ⟨n, 0, Nat.zero_add _, B, (O.le h0).hold (Same.refl _)⟩, fun m σ' H' hW => ?_⟩
  obtain ⟨i, em, B2, O2⟩ := hW
  refine ht B i _ (by omega) rfl B2 H' σ' O2 _ fun B3 H3 O3 s3 => ?_
  cases q : t (whileL i t f s0) with
  | true =>
    rw [if_pos rfl]
    have hi : i < n := by
      rcases Nat.lt_or_ge i n with z | z
      · exact z
      · have : i = n := by omega
        rw [this, hend] at q; cases q
    refine ⟨Reach (C.hold B) (Gs (f (whileL i t f s0))), fun σ4 H4 h4 => ⟨m - 1, by omega, i + 1, by omega, ?_⟩, hs B i _ hi rfl q B3 H3 σ' O3⟩
    rw [whileL_succ, q, if_pos rfl]; exact h4
  | false =>
    rw [if_neg Bool.false_ne_true]
    rw [whileL_stop q n (by omega)] at k
    exact k B3 H3 σ' (O3.unhold (O.h1.trans O3.h1))
theorem t_G {G2 G3 : List Ent} {k k2 : Bool} (h : G = G2) (h2 : G1 = G3) (h3 : k = k2) (q : XT X C c G2 G3 k2) : XT X C c G G1 k := by subst h h2 h3; exact q
theorem x_lcM {n : Str} {tp : Pos} {it elt : Expr} {as : List α} {scope : Scope} (j : Nat) (w : Wk X C (.Name n tp) it G G0 r as) (Gs : S → List Ent) (z0 : S) (f : S → α → S × β) (h0 : Le G0 (Gs z0)) (hG : ∀ z, (Gs z).length = (Gs z0).length) (hv : ∀ z, (Gs z)[j]? = (Gs z0)[j]?) (no : NoOwn (Gs z0) [j])
    (he : ∀ (C1 : C0) (i : Nat) (v : α) (z : S), as[i]? = some v → ∀ s0 H0 c0 cl fp, XE (Cx.bl X scope s0 H0 c0 cl fp) C1 elt ((Gs z).set j (.dat r v)) ((Gs (f z v).1).set j (.dat r v)) (.dat s (f z v).2))
    (hN : X.N.Nodup) (ok : BlkOk X.N X.env.scope scope [(n, j)]) (hg : ∀ (s : Shared) (H : Hp) (c0 : Addr) (cl : List (Str × Addr)) (fp : List Addr), PG (X.blk s H scope (compEnvC scope cl c0 X.env) fp) (.Name n tp) (gName j)) (hc : X.calm = true := by rfl) :
    XE X C (.ListComp elt [⟨.Name n tp, it, [], 0⟩] scope pos) G (Gs (mapS f z0 as).1) (.own false s (mapS f z0 as).2) := by
  have h := x_lcS0 (pos := pos) (s := s) j w Gs z0 f h0 hG hv no he hN ok hg hc
  rw [lcS_map f as z0 []] at h
  exact h
end
end TL

namespace TL
section
open PySem PySem.Calls PyProof.Rows PyProof.V PySem.Spec
open PySem.W (KeqHitsP samePairsP)
variable {prog : Program} {w : World} {K : Type} [DecidableEq K] {knd : KeyKind prog w K} {A : Around} {s : Shared}
end
open PySem PySem.Spec PyProof.Rows L2
section
variable {α : Type} {r : Rp α} [RQ r] {X : Cx} {pins : List (Addr × Obj)} {σ : L2.St} {H B : Hp} {s : Shared}
end
section
variable {X : Cx} {C : C0} {G G' G0 G1 G2 : List Ent} {α β γ S : Type} {r : Rp α} {s : Rp β} {a b c : Expr} {e : Expr} {es : List Expr} {body : List Stmt} {pos p p2 apos cpos : Pos} {x : Str} {rest : List Stmt} {D : Ends} {te ta : TE}
end
end TL

namespace TL
open PySem PySem.Spec PyProof.Rows L2
def cutB (B : Hp) (p : Addr) : Hp := fun b => if b = p then none else B b
theorem cutB_same (B : Hp) (p : Addr) : cutB B p p = none := if_pos rfl
theorem cutB_ne {B : Hp} {p b : Addr} (h : b ≠ p) : cutB B p b = B b := if_neg h
class NL {α : Type} (r : Rp α) : Prop where
  nl : ∀ {B : Hp} {p : Addr} {us : List V} {v : V} {a : α}, B p = some (.lst us) → r.rel B v a → r.rel (cutB B p) v a
instance : NL TL.rI := ⟨fun _ h => h⟩
instance : NL TL.rB := ⟨fun _ h => h⟩
instance : NL TL.rS := ⟨fun _ h => h⟩
instance : NL TL.rN := ⟨fun _ h => h⟩
theorem nl_paired {α : Type} {r : Rp α} [NL r] {B : Hp} {p : Addr} {us : List V} (hp : B p = some (.lst us)) {vs : List V} {l : List α} (h : Paired (r.rel B) vs l) : Paired (r.rel (cutB B p)) vs l :=
  h.mono fun _ _ h => NL.nl hp h
theorem nl_ne {B : Hp} {p q : Addr} {us : List V} {o : HO} (hp : B p = some (.lst us)) (hq : B q = some o) (h : ∀ us, o ≠ .lst us) : q ≠ p := fun e => by
  subst e; rw [hp] at hq; cases hq; exact h us rfl
instance {α : Type} {r : Rp α} [NL r] : NL (rT r) := ⟨fun hp h => by
  obtain ⟨q, vs, rfl, h2, h3⟩ := h
  exact ⟨q, vs, rfl, by rw [cutB_ne (nl_ne hp h2 fun _ z => by cases z)]; exact h2, nl_paired hp h3⟩⟩
instance {α β : Type} {r : Rp α} {s : Rp β} [NL r] [NL s] : NL (TL.rP r s) := ⟨fun hp h => by
  obtain ⟨q, x, y, rfl, h2, h3, h4⟩ := h
  exact ⟨q, x, y, rfl, by rw [cutB_ne (nl_ne hp h2 fun _ z => by cases z)]; exact h2, NL.nl hp h3, NL.nl hp h4⟩⟩
instance {α β γ : Type} {r : Rp α} {s : Rp β} {t : Rp γ} [NL r] [NL s] [NL t] : NL (TL.rP3 r s t) := ⟨fun hp h => by
  obtain ⟨q, x, y, z, rfl, h2, h3, h4, h5⟩ := h
  exact ⟨q, x, y, z, rfl, by rw [cutB_ne (nl_ne hp h2 fun _ z => by cases z)]; exact h2, NL.nl hp h3, NL.nl hp h4, NL.nl hp h5⟩⟩
def Ent.nl : Ent → Prop
  | .own _ r _ => NL r
  | .ownT _ r _ => NL r
  | .ownK _ r _ => NL r
  | .ownX _ _ => False
  | _ => True
section
variable {X : Cx} {C : C0} {G G' G0 G1 G2 G3 : List Ent} {α β γ S : Type} {r : Rp α} {s : Rp β} {as : List α} {a b c it elt : Expr} {scope : Scope} {e : Expr} {es : List Expr} {body : List Stmt} {pos p p2 apos cpos : Pos} {x y : Str} {rest : List Stmt} {D : Ends}
end
end TL

namespace TL
open PySem PySem.Spec PyProof.Rows L2
def Plain (G : List Ent) : Prop := ∀ e ∈ G, e.odd = false
theorem plain_nil : Plain [] := fun _ h => absurd h List.not_mem_nil
theorem plain_cons {e : Ent} {G : List Ent} (h : e.odd = false) (t : Plain G) : Plain (e :: G) := fun x hx => by
  rcases List.mem_cons.mp hx with rfl | hx
  · exact h
  · exact t x hx
theorem Plain.set {G : List Ent} (h : Plain G) {i : Nat} {e : Ent} (he : e.odd = false) : Plain (G.set i e) := fun x hx => by
  rcases List.mem_or_eq_of_mem_set hx with hx | rfl
  · exact h x hx
  · exact he
abbrev Cr (B H : Hp) : C0 := ⟨B, H, [], [], B⟩
theorem plain_ent {C C1 : C0} {B H H' : Hp} {e : Ent} {ov : Option V} (he : e.odd = false) (h : EntOk C B H e ov) : EntOk C1 B H' e ov := by
  cases e with
  | any => trivial
  | dat r a => exact h
  | own m r l => cases he
  | ownT m r l => cases he
  | ownK m r l => cases he
  | ownX m l => cases he
  | tld F a => cases he
theorem Ok.rebase {C : C0} {G : List Ent} {B H : Hp} {σ : L2.St} (O : Ok C G B H σ) (hG : Plain G) : Ok (Cr B H) G B H σ :=
  ⟨Grow.refl O.g.kn (fun _ h => absurd h List.not_mem_nil) O.g.sm, Same.refl _, O.len, fun i e ov hi hs => plain_ent (hG e (List.mem_of_getElem? hi)) (O.ent i e ov hi hs), fun i j e e' p _ hi _ hm _ => by rw [odd_mine (hG e (List.mem_of_getElem? hi))] at hm; cases hm⟩
def Fr (B H B' H' : Hp) : Prop := ∀ q o, H q = some o → B q = none → isTup o = false → H' q = some o ∧ B' q = none
theorem Fr.trans {B H B1 H1 B2 H2 : Hp} (h : Fr B H B1 H1) (k : Fr B1 H1 B2 H2) : Fr B H B2 H2 := fun q o a b c => by
  obtain ⟨x, y⟩ := h q o a b c
  exact k q o x y c
theorem Fr.refl {B H : Hp} : Fr B H B H := fun _ _ a b _ => ⟨a, b⟩
theorem Ok.reback {C : C0} {G G' : List Ent} {B H B' H' : Hp} {σ σ' : L2.St} (O : Ok C G B H σ) (O' : Ok (Cr B H) G' B' H' σ') (hG : Plain G') : Ok C G' B' H' σ' ∧ Same B B' ∧ Fr B H B' H' := by
  have g : Grow [] [] B H B' H' := O'.g
  refine ⟨⟨O.g.trans g (fun _ h => absurd h List.not_mem_nil), fun b o h => g.bb b o (O.h1 b o h), O'.len, fun i e ov hi hs => plain_ent (hG e (List.mem_of_getElem? hi)) (O'.ent i e ov hi hs), fun i j e e' p _ hi _ hm _ => by rw [odd_mine (hG e (List.mem_of_getElem? hi))] at hm; cases hm⟩, g.bb, fun q o a b c => ?_⟩
  have h2 : B' q = none := (g.nw q o a c).trans b
  rcases g.hh q o List.not_mem_nil a with y | ⟨_, y, _⟩
  · exact ⟨y, h2⟩
  · rw [h2] at y; cases y
def rAdr : Rp Addr := ⟨fun _ v a => v = .ref a, fun _ h => h⟩
abbrev PL := List (List Int)
abbrev rTI := rT TL.rI
def Nest (C : C0) (B H : Hp) (σ : L2.St) (i : Nat) (d : List (List Int × PL)) : Prop := ∃ (p : Addr) (kvs : List (List Key × V)) (dq : List (List Int × Addr)) (L : Addr → PL), σ[i]? = some (some (.ref p)) ∧ H p = some (.dT kvs) ∧ Mine C B false p ∧ DTr rAdr B kvs dq ∧
  (dq.map (·.1)).Nodup ∧ (dq.map (·.2)).Nodup ∧ (∀ kq ∈ dq, Mine C B false kq.2 ∧ ∃ vs, H kq.2 = some (.lst vs) ∧ Paired (rTI.rel B) vs (L kq.2)) ∧ d = dq.map fun kq => (kq.1, L kq.2)
theorem Nest.go {C : C0} {B H B' H' : Hp} {σ σ' : L2.St} {i : Nat} {d : List (List Int × PL)} (h : Nest C B H σ i d) (s : Same B B') (f : Fr B H B' H') (e : σ'[i]? = σ[i]?) : Nest C B' H' σ' i d := by
  obtain ⟨p, kvs, dq, L, h1, h2, ⟨m1, m2, m3⟩, h4, h5, h6, h7, h8⟩ := h
  obtain ⟨k1, k2⟩ := f p _ h2 m1 rfl
  refine ⟨p, kvs, dq, L, by rw [e]; exact h1, k1, ⟨k2, m2, m3⟩, h4.mono s, h5, h6, fun kq hkq => ?_, h8⟩
  obtain ⟨⟨n1, n2, n3⟩, vs, n4, n5⟩ := h7 kq hkq
  obtain ⟨k3, k4⟩ := f _ _ n4 n1 rfl
  exact ⟨⟨k4, n2, n3⟩, vs, k3, paired_mono s n5⟩
theorem Ok.poke {C : C0} {G : List Ent} {B H : Hp} {σ : L2.St} (O : Ok C G B H σ) (hG : Plain G) {p : Addr} {o o' : HO} (hp : H p = some o) (hm : Mine C B false p) (ht : isTup o' = false) (hs : Small o') : Ok C G B (upd H p o') σ := by
  obtain ⟨m1, m2, m3⟩ := hm
  rw [if_neg Bool.false_ne_true] at m3
  refine ⟨⟨O.g.bb, fun a u h => ?_, fun b x nb h => ?_, fun b x h => ?_, O.g.nw, fun b h => ?_, fun b h => ?_, fun b x h => ?_⟩, O.h1, O.len, fun j f ov hj hsj => plain_ent (hG f (List.mem_of_getElem? hj)) (O.ent j f ov hj hsj), O.sep⟩
  · have q : a ≠ p := ne_of_none h m1
    rw [upd_ne q]; exact O.g.kn a u h
  · have q : b ≠ p := ne_of_none h m3
    rw [upd_ne q]; exact O.g.hh b x nb h
  · have q : b ≠ p := ne_of_none h m3
    rw [upd_ne q]; exact O.g.mm b x h
  · have q : b ≠ p := fun z => m2 (z ▸ h)
    rw [upd_ne q]; exact O.g.hl b h
  · obtain ⟨z1, z2, z3, z4, z5⟩ := O.g.ml b h
    have q : b ≠ p := fun z => z1 (by rw [z]; exact m3)
    exact ⟨z1, z2, z3, by rw [upd_ne q]; exact z4, z5⟩
  · by_cases q : b = p
    · subst q; rw [upd_same] at h; cases h; exact hs
    · rw [upd_ne q] at h; exact O.g.sm b x h
theorem dput_map {dq : List (List Int × Addr)} {k : List Int} {q : Addr} {f : Addr → PL} : (dput dq k q).map (fun kq => (kq.1, f kq.2)) = dput (dq.map fun kq => (kq.1, f kq.2)) k (f q) := by
  unfold dput
  rw [List.any_map]
  have e : (fun kv : List Int × PL => decide (kv.1 = k)) ∘ (fun kq : List Int × Addr => (kq.1, f kq.2)) = fun kv => decide (kv.1 = k) := rfl
  rw [e]
  split
  · rw [List.map_map, List.map_map]
    refine List.map_congr_left fun x _ => ?_
    show ((if x.1 = k then (x.1, q) else x).1, f (if x.1 = k then (x.1, q) else x).2) = if x.1 = k then (x.1, f q) else (x.1, f x.2)
    split <;> rfl
  · rw [List.map_append]; rfl
theorem dput_keysA {dq : List (List Int × Addr)} {k : List Int} {q : Addr} (h : (dq.map (·.1)).Nodup) : ((dput dq k q).map (·.1)).Nodup := by
  unfold dput
  split
  · rw [List.map_map]
    have : ((·.1) ∘ fun kv : List Int × Addr => if kv.1 = k then (kv.1, q) else kv) = fun kv => kv.1 := by
      funext x
      show (if x.1 = k then (x.1, q) else x).1 = x.1
      split <;> rfl
    rw [this]; exact h
  · rename_i c
    rw [List.map_append]
    refine List.nodup_append.mpr ⟨h, by simp, fun a ha b hb e => ?_⟩
    rw [List.map_cons, List.map_nil, List.mem_singleton] at hb
    obtain ⟨x, hx, rfl⟩ := List.mem_map.mp ha
    exact c (List.any_eq_true.mpr ⟨x, hx, decide_eq_true (e.trans hb)⟩)
theorem mem_dputA {dq : List (List Int × Addr)} {k : List Int} {q : Addr} {x : List Int × Addr} (h : x ∈ dput dq k q) : x = (k, q) ∨ (x ∈ dq ∧ x.1 ≠ k) := by
  unfold dput at h
  split at h
  · obtain ⟨y, hy, e⟩ := List.mem_map.mp h
    split at e
    · rename_i ek; rw [← e, ek]; exact .inl rfl
    · rename_i ek; rw [← e]; exact .inr ⟨hy, ek⟩
  · rename_i c
    rcases List.mem_append.mp h with h | h
    · refine .inr ⟨h, fun e => c (List.any_eq_true.mpr ⟨x, h, decide_eq_true e⟩)⟩
    · exact .inl (List.mem_singleton.mp h)
theorem dput_adrs {dq : List (List Int × Addr)} {k : List Int} {q : Addr} (h1 : (dq.map (·.1)).Nodup) (h : (dq.map (·.2)).Nodup) (hq : q ∉ dq.map (·.2)) : ((dput dq k q).map (·.2)).Nodup := by
  induction dq with
  | nil => unfold dput; simp
  | cons x dq ih =>
    rw [List.map_cons, List.nodup_cons] at h h1
    rw [List.map_cons, List.mem_cons, not_or] at hq
    by_cases e : x.1 = k
    · have e2 : dput (x :: dq) k q = (x.1, q) :: dq := by
        unfold dput
        rw [List.any_cons, decide_eq_true e, Bool.true_or, if_pos rfl, List.map_cons, if_pos e]
        congr 1
        have : dq.map (fun kv => if kv.1 = k then (kv.1, q) else kv) = dq.map id := List.map_congr_left fun y hy => by
          rw [if_neg fun z => h1.1 (List.mem_map.mpr ⟨y, hy, by rw [z, e]⟩)]; rfl
        rw [this, List.map_id]
      rw [e2, List.map_cons, List.nodup_cons]
      exact ⟨hq.2, h.2⟩
    · have e2 : dput (x :: dq) k q = x :: dput dq k q := by
        unfold dput
        rw [List.any_cons, decide_eq_false e, Bool.false_or]
        split
        · rw [List.map_cons, if_neg e]
        · rfl
      rw [e2, List.map_cons, List.nodup_cons]
      refine ⟨fun hm => ?_, ih h1.2 h.2 hq.2⟩
      obtain ⟨y, hy, e3⟩ := List.mem_map.mp hm
      rcases mem_dputA hy with rfl | ⟨hy, _⟩
      · exact hq.1 e3
      · exact h.1 (List.mem_map.mpr ⟨y, hy, e3⟩)
theorem Nest.put {C : C0} {B0 H0 B H : Hp} {σ : L2.St} {i : Nat} {d : List (List Int × PL)} {G : List Ent} (O : Ok C G B H σ) (hG : Plain G) (h0 : Nest C B0 H0 σ i d) (s0 : Same B0 B) (f0 : Fr B0 H0 B H) {k : List Int} {q : Addr} (hn : H0 q = none) (hq : H q = some (.lst [])) (hm : Mine C B false q) :
    ∃ p kvs, σ[i]? = some (some (.ref p)) ∧ H p = some (.dT kvs) ∧ kvs.length = d.length ∧ (d.length < sizeLine → Nest C B (upd H p (.dT (putK kvs (tk k) (.ref q)))) σ i (dput d k []) ∧ Ok C G B (upd H p (.dT (putK kvs (tk k) (.ref q)))) σ) := by
  obtain ⟨p, kvs, dq, L, h1, h2, h3, h4, h5, h6, h7, h8⟩ := h0
  have hqd : q ∉ dq.map (·.2) := fun z => by
    obtain ⟨kq, hkq, e⟩ := List.mem_map.mp z
    obtain ⟨_, vs, n2, _⟩ := h7 kq hkq
    rw [show kq.2 = q from e, hn] at n2; cases n2
  obtain ⟨m1, m2, m3⟩ := h3
  obtain ⟨g1, g2⟩ := f0 p _ h2 m1 rfl
  have h3 : Mine C B false p := ⟨g2, m2, m3⟩
  have h2 := g1
  have h4 := h4.mono s0
  have h7 : ∀ kq ∈ dq, Mine C B false kq.2 ∧ ∃ vs, H kq.2 = some (.lst vs) ∧ Paired (rTI.rel B) vs (L kq.2) := fun kq hkq => by
    obtain ⟨⟨n1, n2, n3⟩, vs, n4, n5⟩ := h7 kq hkq
    obtain ⟨k3, k4⟩ := f0 _ _ n4 n1 rfl
    exact ⟨⟨k4, n2, n3⟩, vs, k3, paired_mono s0 n5⟩
  have hl : kvs.length = d.length := by rw [h8, List.length_map]; exact Paired.length h4
  refine ⟨p, kvs, h1, h2, hl, fun hz => ⟨?_, ?_⟩⟩
  · have hqp : q ≠ p := fun z => by rw [z, h2] at hq; cases hq
    refine ⟨p, _, dput dq k q, fun a => if a = q then [] else L a, h1, upd_same, h3, DR.put tk_inj k (show rAdr.rel B (.ref q) q from rfl) h4, dput_keysA h5, dput_adrs h5 h6 hqd, fun kq hkq => ?_, ?_⟩
    · rcases mem_dputA hkq with rfl | ⟨hkq, _⟩
      · refine ⟨hm, [], by rw [upd_ne hqp]; exact hq, ?_⟩
        show Paired _ [] (if q = q then [] else L q)
        rw [if_pos rfl]; exact .nil
      · obtain ⟨n1, vs, n2, n3⟩ := h7 kq hkq
        have a1 : kq.2 ≠ p := fun z => by rw [z, h2] at n2; cases n2
        have a2 : kq.2 ≠ q := fun z => hqd (List.mem_map.mpr ⟨kq, hkq, z⟩)
        refine ⟨n1, vs, by rw [upd_ne a1]; exact n2, ?_⟩
        show Paired _ vs (if kq.2 = q then [] else L kq.2)
        rw [if_neg a2]; exact n3
    · refine Eq.trans ?_ (dput_map (f := fun a => if a = q then [] else L a)).symm
      show dput d k [] = dput _ k (if q = q then [] else L q)
      rw [if_pos rfl, h8]
      congr 1
      refine List.map_congr_left fun kq hkq => ?_
      show (kq.1, L kq.2) = (kq.1, if kq.2 = q then [] else L kq.2)
      rw [if_neg fun z => hqd (List.mem_map.mpr ⟨kq, hkq, z⟩)]
  · exact O.poke hG h2 h3 rfl (Nat.le_trans (length_putK _ _ _) (by rw [hl]; exact hz))
theorem Nest.known {C : C0} {B H : Hp} {σ : L2.St} {i : Nat} {d : List (List Int × PL)} {G : List Ent} (O : Ok C G B H σ) (hG : Plain G) (hi : i < G.length) (h : Nest C B H σ i d) : ∃ B', Ok C (G.set i (.ownT false (rL rTI) d)) B' H σ ∧ Same B B' := by
  obtain ⟨p, kvs, dq, L, h1, h2, h3, h4, h5, h6, h7, h8⟩ := h
  have apart : ∀ q, Apart G σ q := fun q j e hj hm => by rw [odd_mine (hG e (List.mem_of_getElem? hj))] at hm; cases hm
  have key : ∀ (l : List (List Int × Addr)) (B1 : Hp), Ok C G B1 H σ → Same B B1 → (l.map (·.2)).Nodup → (∀ kq ∈ l, Mine C B1 false kq.2 ∧ ∃ vs, H kq.2 = some (.lst vs) ∧ Paired (rTI.rel B) vs (L kq.2)) → B1 p = none →
      ∃ B', Ok C G B' H σ ∧ Same B1 B' ∧ B' p = none ∧ ∀ kq ∈ l, ∃ vs, B' kq.2 = some (.lst vs) ∧ Paired (rTI.rel B) vs (L kq.2) := by
    intro l
    induction l with
    | nil => intro B1 O1 _ _ _ hp; exact ⟨B1, O1, Same.refl _, hp, fun _ h => absurd h List.not_mem_nil⟩
    | cons x l ih =>
      intro B1 O1 s hn hl hp
      rw [List.map_cons, List.nodup_cons] at hn
      obtain ⟨⟨m1, m2, m3⟩, vs, m4, m5⟩ := hl x List.mem_cons_self
      rw [if_neg Bool.false_ne_true] at m3
      obtain ⟨O2, s2⟩ := O1.known m4 m1 (.inl m3) (apart x.2)
      have hxp : p ≠ x.2 := fun z => by rw [z] at h2; rw [m4] at h2; cases h2
      obtain ⟨B', O3, s3, hp3, hl3⟩ := ih _ O2 (s.trans s2) hn.2 (fun kq hkq => by
        obtain ⟨⟨n1, n2, n3⟩, n4⟩ := hl kq (List.mem_cons_of_mem _ hkq)
        exact ⟨⟨by rw [upd_ne fun z => hn.1 (List.mem_map.mpr ⟨kq, hkq, z⟩)]; exact n1, n2, n3⟩, n4⟩) (by rw [upd_ne hxp]; exact hp)
      refine ⟨B', O3, s2.trans s3, hp3, fun kq hkq => ?_⟩
      rcases List.mem_cons.mp hkq with rfl | hkq
      · exact ⟨vs, s3 _ _ upd_same, m5⟩
      · exact hl3 kq hkq
  obtain ⟨B', O1, s1, hp1, hl1⟩ := key dq B O (Same.refl _) h6 h7 h3.1
  refine ⟨B', ?_, s1⟩
  have hd : DTr (rL rTI) B' kvs d := by
    rw [h8]
    have : ∀ {kvs : List (List Key × V)} {l : List (List Int × Addr)}, DTr rAdr B kvs l → (∀ kq ∈ l, ∃ vs, B' kq.2 = some (.lst vs) ∧ Paired (rTI.rel B) vs (L kq.2)) → DTr (rL rTI) B' kvs (l.map fun kq => (kq.1, L kq.2)) := by
      intro kvs l hh
      induction hh with
      | nil => intro _; exact .nil
      | cons h _ ih =>
        rename_i a b _ _ _
        intro hl
        obtain ⟨vs, n1, n2⟩ := hl b List.mem_cons_self
        exact .cons ⟨h.1, b.2, vs, h.2, n1, paired_mono s1 n2⟩ (ih fun kq hkq => hl kq (List.mem_cons_of_mem _ hkq))
    exact this h4 hl1
  refine ⟨O1.g, O1.h1, by rw [List.length_set]; exact O1.len, fun j e ov hj hs => ?_, fun j k e e' q n hj hk m m' sj sk => ?_⟩
  · by_cases z : i = j
    · subst z
      rw [List.getElem?_set_self hi] at hj
      cases hj
      rw [h1] at hs; cases hs
      exact ⟨p, kvs, rfl, h2, ⟨hp1, h3.2⟩, hd⟩
    · rw [List.getElem?_set_ne z] at hj
      exact O1.ent j e ov hj hs
  · by_cases z : i = j
    · subst z
      rw [List.getElem?_set_ne n] at hk
      rw [odd_mine (hG e' (List.mem_of_getElem? hk))] at m'; cases m'
    · rw [List.getElem?_set_ne z] at hj
      rw [odd_mine (hG e (List.mem_of_getElem? hj))] at m; cases m
end TL

namespace TL
open PySem PySem.Spec PyProof.Rows L2
section
variable {X : Cx} {C : C0} {G : List Ent} {a b itK itK2 itR : Expr} {pos pos1 pos2 pos3 spos dpos epos vpos fpos fpos2 ppos ppos2 rpos tp1 tp2 tp3 apos cpos ipos : Pos} {x y z : Str} {rest : List Stmt} {D : Ends} {j9 : Nat}
end
end TL

namespace TL
open PySem PySem.Spec PyProof.Rows L2
section
variable {X : Cx}
end
section
variable {X : Cx} {C : C0} {G G' G0 G1 G2 : List Ent} {α β γ S : Type} {r : Rp α} {s : Rp β} {a b c : Expr} {e : Expr} {pos p p2 apos cpos : Pos} {x : Str}
end
end TL

namespace TL
open PySem PySem.Spec PyProof.Rows L2
theorem paired_setAt {F : V → α → Prop} {v : V} {a : α} (h : F v a) : ∀ {l : List V} {m : List α} (n : Nat), Paired F l m → Paired F (l.set n v) (m.set n a)
  | _, _, _, .nil => .nil
  | _, _, 0, .cons _ t => .cons h t
  | _, _, n + 1, .cons h2 t => .cons h2 (paired_setAt h n t)
theorem ixN_natZ {n j : Nat} (hj : j < n) : ixN n (j : Int) = some j := by
  unfold ixN
  rw [if_pos (by omega), if_pos (by omega)]
  simp
section
variable {X : Cx} {C : C0} {G G' G0 G1 G2 G3 : List Ent} {α β γ S : Type} {r : Rp α} {s : Rp β} {a b b2 c : Expr} {e : Expr} {pos p p2 apos cpos spos spos2 : Pos} {x : Str} {rest : List Stmt} {D : Ends}
def setA {α : Type} (l : List α) (n : Int) (v : α) : List α := l.set n.toNat v
theorem setA_len {α : Type} {l : List α} {n : Int} {v : α} : (setA l n v).length = l.length := List.length_set
theorem gs_setAt (i : Nat) {m m' : Bool} {l l' : List α} {n : Int} {v : α} (he : XE X C e G G1 (.dat r v)) (hb : XE X C b G1 G2 (.dat TL.rI n)) (h1 : G1[i]? = some (.own m r l)) (h : G2[i]? = some (.own m' r l')) (hn : 0 ≤ n) (hn2 : n < (l'.length : Int)) (kk : GS X C (G2.set i (.own m' r (setA l' n v))) rest D)
    (hN : X.N[i]? = some x := by rfl) (hv : Vis X.env.scope x := by first | exact Or.inl rfl | exact Or.inr (Or.inl rfl) | exact Or.inr (Or.inr rfl)) (hd : (x == ("__debug__" : Str)) = false := by decide) (hcd : (x == ("__classdict__" : Str)) = false := by decide)
    (hs : swapsWithSole [.Subscript (.Name x p) b spos] e pos.line X.env = pure false := by rfl) (hw : swappedStores [.Subscript (.Name x p) b spos] e X.env = pure none := by rfl) (ha : (assignEach [.Subscript (.Name x p) b spos] X.env).map (·.2) = [assign (.Subscript (.Name x p) b spos) X.env] := by rfl)
    (hsub : ∀ v, assign (.Subscript (.Name x p) b spos) X.env v = (do
      let ov ← holding [v] (eval (.Name x p) X.env)
      let iv ← holding [v, ov] (eval b X.env)
      standAt spos
      holding [v, ov, iv] (setItem ov iv v)
      release [v, ov, iv] []) := by intro _; rfl) :
    GS X C G (.Assign [.Subscript (.Name x p) b spos] e pos :: rest) D := fun B H σ O =>
  w_ps (ps_asg (pe_w e) (pg_sub (pe_var hN hv hd hcd) (pe_w b) set_list hsub) hs hw ha) (he.go O fun y B1 H1 O1 s1 hy => by
    obtain ⟨pp, vs, e1, e2, e3, e4⟩ := own_at O1 h1
    refine ⟨.ref pp, e1, hb.go O1 fun z B2 H2 O2 s2 hz => ?_⟩
    obtain ⟨pp', ws, k1, k2, k3, k4⟩ := own_at O2 h
    rw [e1] at k1; cases k1
    obtain ⟨j, rfl⟩ := Int.eq_ofNat_of_zero_le hn
    have hj : j < ws.length := by rw [k3.length]; omega
    have hsz : ws.length ≤ sizeLine := O2.g.sm pp _ k2
    exact ⟨pp, ws, (j : Int), j, rfl, hz, k2, ixN_natZ hj, kk _ _ _ (own_set O2 h e1 k4 (paired_setAt (r.mono s2 hy) j k3) (by rw [List.length_set]; exact hsz))⟩)
end
end TL
namespace TL
open PySem PySem.Spec PyProof.Rows L2
class NN {α : Type} (r : Rp α) : Prop where
  nn : ∀ {B : Hp} {v : V} {a : α}, r.rel B v a → v ≠ .non
instance : NN TL.rI := ⟨fun h e => by cases h; cases e⟩
instance : NN TL.rB := ⟨fun h e => by cases h; cases e⟩
instance : NN TL.rS := ⟨fun h e => by cases h; cases e⟩
instance {α : Type} {r : Rp α} : NN (rT r) := ⟨fun h e => by obtain ⟨p, vs, rfl, _⟩ := h; cases e⟩
instance {α : Type} {r : Rp α} : NN (rL r) := ⟨fun h e => by obtain ⟨p, vs, rfl, _⟩ := h; cases e⟩
instance {α : Type} {r : Rp α} : NN (rDT r) := ⟨fun h e => by obtain ⟨p, vs, rfl, _⟩ := h; cases e⟩
instance {α : Type} {r : Rp α} : NN (rDK r) := ⟨fun h e => by obtain ⟨p, vs, rfl, _⟩ := h; cases e⟩
instance {α β : Type} {r : Rp α} {s : Rp β} : NN (TL.rP r s) := ⟨fun h e => by obtain ⟨p, x, y, rfl, _⟩ := h; cases e⟩
section
variable {X : Cx} {C : C0} {G G' G0 G1 G2 G3 : List Ent} {α β γ S : Type} {r : Rp α} {s : Rp β} {a b b2 c : Expr} {e : Expr} {pos pos' p p2 : Pos} {x : Str} {i : Nat} {rest : List Stmt} {D : Ends} {te : TE}
theorem ev_none {o : Option α} (h : Ev C te G G1 (.dat (rO r) o)) (e : o = none) : Ev C te G G1 (.dat TL.rN ()) := by
  subst e
  exact Ev.mk fun B H σ O Q q => h.go O fun v B1 H1 O1 s1 hv => q v B1 H1 O1 s1 hv
theorem ev_some {o : Option α} {v : α} (h : Ev C te G G1 (.dat (rO r) o)) (e : o = some v) : Ev C te G G1 (.dat r v) := by
  subst e
  exact Ev.mk fun B H σ O Q q => h.go O fun v B1 H1 O1 s1 hv => q v B1 H1 O1 s1 hv
theorem x_someO {v : α} (h : XE X C a G G1 (.dat r v)) : XE X C a G G1 (.dat (rO r) (some v)) := fun B H σ O Q q => h B H σ O Q fun v B' H' O' s' e ap => q v B' H' O' s' e fun m => nomatch m
theorem x_noneO {j : Nat} : XE X C (.Constant .none j p) G G (.dat (rO r) none) := x_non
theorem gs_setO (hN : X.N.Nodup) (hi : X.N[i]? = some x) (hx : Loc X.env.scope x) {ex : Expr} {o : Option α} (he : XE X C ex G G1 (.dat (rO r) o)) (h0 : o = none → GS X C (G1.set i (.dat TL.rN ())) rest D) (h1 : ∀ a, o = some a → GS X C (G1.set i (.dat r a)) rest D)
    (hs : swapsWith ex (some (.Name x pos')) pos.line X.env = pure false := by rfl) (hf : X.fn x = true ∨ X.env.scope.names.lookup x = some .local := by first | exact .inl rfl | exact .inr rfl) :
    GS X C G (.Assign [.Name x pos'] ex pos :: rest) D := by
  cases o with
  | none => exact gs_set hN hi hx (ev_none he rfl) (h0 rfl) hs hf
  | some a => exact gs_set hN hi hx (ev_some he rfl) (h1 a rfl) hs hf
theorem t_isNO [NN r] {v : α} (ha : XE X C a G G1 (.dat r v)) {j : Nat} : XT X C (.Compare a [.Is] [.Constant .none j p] pos) G G1 false :=
  t_c op_isN (ev_op ha x_non fun B H σ u w O hu hw Q q => ⟨hw, q _ _ _ O (Same.refl _) (congrArg V.bl (decide_eq_false (NN.nn hu)))⟩) (nomark _)
theorem t_isNN (ha : XE X C a G G1 (.dat TL.rN ())) {j : Nat} : XT X C (.Compare a [.Is] [.Constant .none j p] pos) G G1 true :=
  t_c op_isN (ev_op ha x_non fun B H σ u w O hu hw Q q => ⟨hw, q _ _ _ O (Same.refl _) (congrArg V.bl (decide_eq_true (show u = V.non from hu)))⟩) (nomark _)
end
end TL

namespace TL
open PySem PySem.Spec PyProof.Rows L2
section
variable {X : Cx} {C : C0} {G G' G0 G1 G2 G3 : List Ent} {pos pos' : Pos} {rest : List Stmt} {D : Ends}
end
end TL

namespace TL
open PySem PySem.Spec PyProof.Rows L2
theorem byE {α : Type} {x : Except Er α} {P : Prop} (h1 : ∀ v, x = .ok v → P) (h2 : ∀ ev, x = .error ev → P) : P := by
  cases x with
  | ok v => exact h1 v rfl
  | error ev => exact h2 ev rfl
section
variable {X : Cx} {C : C0} {G G' G0 G1 G2 : List Ent} {α β γ S : Type} {r : Rp α} {s : Rp β} {a b c : Expr} {e : Expr} {es : List Expr} {pos p p2 apos cpos : Pos} {x : Str} {rest : List Stmt} {D : Ends} {W : WX}
end
end TL

namespace TL
open PySem PySem.Spec PyProof.Rows L2
structure F3 {α β γ : Type} (ι : Type) (r : Rp α) (s : Rp β) (t : Rp γ) where
  args : ι → List Ent
  a : ι → α
  b : ι → β
  d : ι → List (Int × γ)
  post : ι → Ent
section
variable {α β γ ι : Type} {r : Rp α} {s : Rp β} {t : Rp γ}
def F3.sp (F : F3 ι r s t) : Sp := fun vs H Q _ => ∃ (x : ι) (B : Hp) (ms : List Addr), Ok (C00 B H ms) (F.args x) B H (vs.map some) ∧ (∀ p ∈ ms, ∀ q ∈ ms, p = q) ∧
  ∀ p q B' H', Grow ms [] B H B' H' → (rP3 r s (rRef q)).rel B' (.ref p) (F.a x, F.b x, ()) → EntOk (C00 B H ms) B' H' (.ownK false t (F.d x)) (some (.ref q)) → (∀ pm ∈ ms, EntOk (C00 B H ms) B' H' (F.post x) (some (.ref pm))) → Q (.ref p) H'
section
variable {P : Program} {w : World} {K : PySem.W.Frag} {mg : Str → Option Value} {base : Heap}
end
end
theorem Apart.storeD {α : Type} {r : Rp α} {a : α} {G : List Ent} {σ : L2.St} {q : Addr} (h : Apart G σ q) {i : Nat} {v : V} : Apart (G.set i (.dat r a)) (σ.set i (some v)) q := fun j e hj hm hs => by
  by_cases z : i = j
  · subst z
    rw [List.getElem?_set_self (lt_set hj)] at hj
    cases hj
    cases hm
  · rw [List.getElem?_set_ne z] at hj hs
    exact h j e hj hm hs
section
variable {X : Cx} {C : C0} {G G' G0 G1 G2 : List Ent} {α β γ ι : Type} {r : Rp α} {s : Rp β} {t : Rp γ} {e : Expr} {es : List Expr} {pos p p1 p2 p3 tt apos cpos : Pos} {x : Str} {rest : List Stmt} {D : Ends}
end
def ddrop {κ α : Type} [DecidableEq κ] (d : List (κ × α)) (k : κ) : List (κ × α) := d.filter fun kv => decide (kv.1 ≠ k)
theorem DR.drop {κ κ' α : Type} [DecidableEq κ] [DecidableEq κ'] {f : κ → κ'} (hf : ∀ a b, f a = f b → a = b) {r : Rp α} {B : Hp} (k : κ) : ∀ {kvs : List (κ' × V)} {d : List (κ × α)}, DR f r B kvs d → DR f r B (dropK kvs (f k)) (ddrop d k)
  | _, _, .nil => .nil
  | _, _, .cons (a := p) (b := q) (l₁ := kvs) (l₂ := d) h t => by
    have ih := DR.drop hf k t
    by_cases e : q.1 = k
    · have e2 : p.1 = f k := by rw [h.1, e]
      rw [show dropK (p :: kvs) (f k) = dropK kvs (f k) from List.filter_cons_of_neg (by simp [e2]), show ddrop (q :: d) k = ddrop d k from List.filter_cons_of_neg (by simp [e])]
      exact ih
    · have e2 : ¬ p.1 = f k := fun z => e (hf _ _ (h.1.symm.trans z))
      rw [show dropK (p :: kvs) (f k) = p :: dropK kvs (f k) from List.filter_cons_of_pos (by simp [e2]), show ddrop (q :: d) k = q :: ddrop d k from List.filter_cons_of_pos (by simp [e])]
      exact .cons h ih
section
variable {X : Cx} {C : C0} {G G' G0 G1 G2 : List Ent} {α β γ ι : Type} {r : Rp α} {s : Rp β} {t : Rp γ} {b c e : Expr} {es : List Expr} {pos p p1 p2 p3 tt apos cpos : Pos} {x : Str} {rest : List Stmt} {D : Ends}
end
end TL

namespace TL
open PySem PySem.Spec PyProof.Rows L2 L2.DX
section
variable {X : Cx} {C : C0} {G G' G0 G1 G2 : List Ent} {α β γ ι : Type} {r : Rp α} {s : Rp β} {t : Rp γ} {b c e : Expr} {es : List Expr} {pos p p1 p2 p3 tt apos cpos : Pos} {x : Str} {rest : List Stmt} {D : Ends}
end
end TL
namespace TL
open PySem PySem.Spec PyProof.Rows L2 SeqAt
section
variable {X : Cx} {C : C0} {G G' G0 G1 G2 : List Ent} {α β γ ι : Type} {r : Rp α} {a b c e : Expr} {pos : Pos}
end
end TL

namespace TL
open PySem PySem.Spec PyProof.Rows L2 PySem.W
section
variable {α β γ : Type} [DecidableEq α] [DecidableEq β] [DecidableEq γ] {r : Rp α} {s : Rp β} {t : Rp γ} [RD r] [RD s] [RD t]
instance : RD (TL.rP3 r s t) where
  d := fun p => .tuple [RD.d r p.1, RD.d s p.2.1, RD.d t p.2.2]
  dp := fun k h => by
    obtain ⟨p, x, y, z, rfl, h2, h3, h4, h5⟩ := h
    exact .tup (SqT.of (k.x h2 rfl)) (.cons (RD.dp k h3) (.cons (RD.dp k h4) (.cons (RD.dp k h5) .nil)))
  lay := fun p => by simp only [PyData.canLay0, PyData.canLayAll0, RD.lay, Bool.and_self]
  dep := max (RD.dep r) (max (RD.dep s) (RD.dep t)) + 1
  dle := fun p => by
    have h1 := RD.dle (r := r) p.1
    have h2 := RD.dle (r := s) p.2.1
    have h3 := RD.dle (r := t) p.2.2
    simp only [PyData.depth, PyData.depthAll]
    omega
  eqv := fun a b => by
    obtain ⟨a1, a2, a3⟩ := a
    obtain ⟨b1, b2, b3⟩ := b
    simp only [PyData.eqv, PyData.eqvAll, RD.eqv, Bool.and_true]
    by_cases h1 : a1 = b1 <;> by_cases h2 : a2 = b2 <;> by_cases h3 : a3 = b3 <;> simp [h1, h2, h3]
instance [RO r] [RO s] [RO t] : RO (TL.rP3 r s t) where
  lt := fun p q => if p.1 = q.1 then (if p.2.1 = q.2.1 then (if p.2.2 = q.2.2 then false else RO.lt t p.2.2 q.2.2) else RO.lt s p.2.1 q.2.1) else RO.lt r p.1 q.1
  lt_eq := fun p q => by
    show PySem.W.dataLt (.tuple [RD.d r p.1, RD.d s p.2.1, RD.d t p.2.2]) (.tuple [RD.d r q.1, RD.d s q.2.1, RD.d t q.2.2]) = _
    have e0 : PyProof.Rows.lexLt PyProof.Rows.itemOrd (PySem.W.keyToksAll []) (PySem.W.keyToksAll []) = false := lex_irrefl _
    rw [PySem.W.dataLt_tuple, PySem.W.dataLt_cons (RO.al p.1 q.1), PySem.W.dataLt_cons (RO.al p.2.1 q.2.1), PySem.W.dataLt_cons (RO.al p.2.2 q.2.2), e0, RD.eqv, RD.eqv, RD.eqv, RO.lt_eq, RO.lt_eq, RO.lt_eq]
    by_cases h1 : p.1 = q.1 <;> by_cases h2 : p.2.1 = q.2.1 <;> by_cases h3 : p.2.2 = q.2.2 <;> simp [h1, h2, h3]
  al := fun p q => by
    show PySem.W.alike (.tuple [RD.d r p.1, RD.d s p.2.1, RD.d t p.2.2]) (.tuple [RD.d r q.1, RD.d s q.2.1, RD.d t q.2.2]) = true
    rw [PySem.W.alike]
    simp only [PySem.W.alikeAll, RO.al, Bool.and_self]
end
end TL

namespace TL
open PySem PySem.Spec PyProof.Rows L2
def rTR {α : Type} (R : Row α) : Rp α := ⟨fun B v a => ∃ p vs, v = .ref p ∧ B p = some (.tup vs) ∧ R.rel B vs a, fun e h => by obtain ⟨p, vs, h1, h2, h3⟩ := h; exact ⟨p, vs, h1, e _ _ h2, R.mono e h3⟩⟩
instance {α : Type} {R : Row α} : NN (rTR R) := ⟨fun h e => by obtain ⟨p, vs, rfl, _⟩ := h; cases e⟩
instance {α β γ : Type} {r : Rp α} {s : Rp β} {t : Rp γ} : NN (TL.rP3 r s t) := ⟨fun h e => by obtain ⟨p, x, y, z, rfl, _⟩ := h; cases e⟩
section
variable {X : Cx} {C : C0} {G G' G0 G1 G2 : List Ent} {α β γ δ ε S ρ : Type} {r : Rp α} {s : Rp β} {t : Rp γ} {r4 : Rp δ} {r5 : Rp ε} {R : Row α} {a b : Expr} {e it : Expr} {es : List Expr} {pos p : Pos} {rest body : List Stmt} {D : Ends}
theorem x_tupR {as : List Arg} {v : α} {k : Nat} (hr : RowA as R v) (h : XA X C es G G1 as) (hl : Nat.ble as.length sizeLine = true := by rfl) : XE X C (.Tuple es k pos) G G1 (.dat (rTR R) v) :=
  x_of (pe_tup (pa_w es)) (Ev.mk fun B H σ O Q q => h B H σ O _ fun vs B1 H1 O1 s1 hvs => by
    have hl' : vs.length ≤ sizeLine := by rw [← hvs.len]; exact Nat.le_of_ble_eq_true hl
    refine ⟨hl', fun p np => ?_⟩
    obtain ⟨O2, s2⟩ := O1.learn (o := .tup vs) np hl'
    exact q _ _ _ O2 (s1.trans s2) ⟨p, vs, rfl, upd_same, R.mono s2 (hr.rel hvs)⟩)
theorem t_isOb [NN r] {o : Option α} {j : Nat} (h : XE X C a G G1 (.dat (rO r) o)) : XT X C (.Compare a [.Is] [.Constant .none j p] pos) G G1 o.isNone := by
  cases o with
  | none => exact t_isNN (ev_none h rfl)
  | some v => exact t_isNO (ev_some h rfl)
theorem x_getO [Inhabited α] {o : Option α} (h : XE X C a G G1 (.dat (rO r) o)) (e : o.isSome = true) : XE X C a G G1 (.dat r (o.getD default)) := by
  cases o with
  | none => cases e
  | some v => exact ev_some h rfl
theorem not_none {o : Option α} (h : o.isNone = false) : o.isSome = true := by
  cases o with
  | none => cases h
  | some _ => rfl
section
variable {n1 n2 n3 n4 n5 : Str} {q1 q2 q3 q4 q5 tt : Pos} {kk : Nat}
end
end
end TL

namespace TL
open PySem PySem.Spec PyProof.Rows L2
section
variable {X : Cx} {C : C0} {G G' G0 G1 G2 : List Ent} {α β : Type} {r : Rp α} {a b : Expr} {e : Expr} {es : List Expr} {pos p p2 cpos : Pos} {rest : List Stmt} {D : Ends}
end
end TL

namespace TL
open PySem PySem.Spec PyProof.Rows L2
section
open PySem.Calls PySem.W PySem.SeqAt MeetsSeq MeetsSeq2 MeetsSeq3 SeqRoads2
variable {prog : Program} {w : World} {A : Around} {E : Value → Shared → Prop} {s : Shared} {β : Type} {vs : List Value} {bs : List β} {enc : β → PyData} {R : Value → β → Prop}
end
section
variable {X : Cx} {C : C0} {G G' G0 G1 G2 : List Ent} {α β : Type} {r : Rp α} {a b : Expr} {e : Expr} {es : List Expr} {pos p p2 cpos : Pos} {rest : List Stmt} {D : Ends}
end
end TL

namespace TL
open PySem PySem.Spec PyProof.Rows L2
def EqS (X : Cx) (A : Around) (s : Shared) (x y : V) : Prop := ∀ v u, RelV x v → RelV y u → SeqAt.EqP X.prog X.w A s v u true
class RS {α : Type} (r : Rp α) where
  dep : Nat
  ev : ∀ {X : Cx} {pins : List (Addr × Obj)} {σ : L2.St} {H B : Hp} {s : Shared} {A : Around} {x y : V} {a : α}, Inv X pins σ H s → Kn B H → A.units + dep < cLine → r.rel B x a → r.rel B y a → EqS X A s x y
instance (priority := low) rs_rq {α : Type} {r : Rp α} [RQ r] : RS r where
  dep := RQ.dep r
  ev := fun {X pins σ H B s A x y a} I kn hu ha hb v u rx ry => by
    have h := RQ.ev I kn hu ha hb rx ry
    rw [RQ.sm I kn ha ha rx] at h
    exact h
instance {α : Type} {r : Rp α} [RS r] : RS (rO r) where
  dep := RS.dep r
  ev := fun {X pins σ H B s A x y a} I kn hu ha hb v u rx ry => by
    cases a with
    | none =>
      have ha : x = .non := ha
      have hb : y = .non := hb
      subst ha hb
      exact (eqAt_same rx ry rfl).eqP
    | some a => exact RS.ev (r := r) (a := a) I kn hu ha hb v u rx ry
class RowS {α : Type} (R : Row α) where
  dep : Nat
  ev : ∀ {X : Cx} {pins : List (Addr × Obj)} {σ : L2.St} {H B : Hp} {s : Shared} {A : Around} {vs ws : List V} {a : α}, Inv X pins σ H s → Kn B H → A.units + dep < cLine → R.rel B vs a → R.rel B ws a → Paired (EqS X A s) vs ws
instance {α : Type} {r : Rp α} [RS r] : RowS (row1 r) where
  dep := RS.dep r
  ev := fun {X pins σ H B s A vs ws a} I kn hu ha hb => by
    obtain ⟨x, rfl, h1⟩ := ha
    obtain ⟨y, rfl, h2⟩ := hb
    exact .cons (RS.ev I kn hu h1 h2) .nil
instance {α β : Type} {r : Rp α} {R : Row β} [RS r] [RowS R] : RowS (rowC r R) where
  dep := max (RS.dep r) (RowS.dep R)
  ev := fun {X pins σ H B s A vs ws a} I kn hu ha hb => by
    have m1 := Nat.le_max_left (RS.dep r) (RowS.dep R)
    have m2 := Nat.le_max_right (RS.dep r) (RowS.dep R)
    obtain ⟨x, xs, rfl, h1, h3⟩ := ha
    obtain ⟨y, ys, rfl, h2, h4⟩ := hb
    exact .cons (RS.ev I kn (by omega) h1 h2) (RowS.ev I kn (by omega) h3 h4)
theorem all_true (n : Nat) : ((List.range n).all fun _ => true) = true := List.all_eq_true.mpr fun _ _ => rfl
theorem same_lists {X : Cx} {A : Around} {s : Shared} {vs ws : List V} {us zs : List Value} (hp : Paired (EqS X A s) vs ws) (r1 : Vals vs us) (r2 : Vals ws zs) : us.length = zs.length ∧ ∀ j (h1 : j < us.toArray.size) (h2 : j < zs.toArray.size), SeqAt.EqP X.prog X.w A s us.toArray[j] zs.toArray[j] true := by
  refine ⟨by rw [← r1.length, ← r2.length]; exact Paired.length hp, fun j h1 h2 => ?_⟩
  have k := items_run (F := EqS X A s) (fun x y v u h a b => h v u a b) hp r1 r2 j (by simpa using h1) (by simpa using h2)
  simpa using k
instance {α : Type} {R : Row α} [RowS R] : RS (rTR R) where
  dep := RowS.dep R + 1
  ev := fun {X pins σ H B s A x y a} I kn hu ha hb v u rx ry => by
    obtain ⟨p, vs, rfl, e2, e3⟩ := ha
    obtain ⟨p', ws, rfl, f2, f3⟩ := hb
    cases (show v = Value.ref p from rx)
    cases (show u = Value.ref p' from ry)
    by_cases c : p = p'
    · subst c; exact (SeqAt.EqAt.same _).eqP
    · obtain ⟨us, r1, l1, _⟩ := I.tuple (SqT.of (kn.x e2 rfl))
      obtain ⟨zs, r2, l2, _⟩ := I.tuple (SqT.of (kn.x f2 rfl))
      have hp := RowS.ev (A := A.in1) I kn (by show A.units + 1 + _ < cLine; omega) e3 f3
      obtain ⟨hl, he⟩ := same_lists hp r1 r2
      refine SeqAt.eqP_refs c fun E Q q => SeqAt.rcIn_tuples (e := fun _ => true) l1 l2 (by omega) he ?_
      rw [all_true, List.size_toArray, List.size_toArray, hl, beq_self_eq_true]
      exact q
theorem rs_list {α : Type} {r : Rp α} [RS r] {X : Cx} {pins : List (Addr × Obj)} {σ : L2.St} {H B : Hp} {s : Shared} {A : Around} (I : Inv X pins σ H s) (kn : Kn B H) (hu : A.units + RS.dep r < cLine) : ∀ {l : List α} {vs ws : List V}, Paired (r.rel B) vs l → Paired (r.rel B) ws l → Paired (EqS X A s) vs ws
  | _, _, _, .nil, .nil => .nil
  | _, _, _, .cons h t, .cons h' t' => .cons (RS.ev I kn hu h h') (rs_list I kn hu t t')
instance (priority := low) rs_l {α : Type} {r : Rp α} [RS r] : RS (rL r) where
  dep := RS.dep r + 1
  ev := fun {X pins σ H B s A x y a} I kn hu ha hb v u rx ry => by
    obtain ⟨p, vs, rfl, e2, e3⟩ := ha
    obtain ⟨p', ws, rfl, f2, f3⟩ := hb
    cases (show v = Value.ref p from rx)
    cases (show u = Value.ref p' from ry)
    by_cases c : p = p'
    · subst c; exact (SeqAt.EqAt.same _).eqP
    · obtain ⟨us, r1, l1, _⟩ := I.list (SqL.of (kn.x e2 rfl))
      obtain ⟨zs, r2, l2, _⟩ := I.list (SqL.of (kn.x f2 rfl))
      have hp := rs_list (A := A.in1) I kn (by show A.units + 1 + _ < cLine; omega) e3 f3
      obtain ⟨hl, he⟩ := same_lists hp r1 r2
      refine SeqAt.eqP_refs c fun E Q q => SeqAt.rcP_lists (e := fun _ => true) l1.isList l2.isList (by rw [List.size_toArray, List.size_toArray, hl]) (by omega) he E Q ?_
      rw [all_true]
      exact q
section
open PySem.SeqAt
open AutoSeq1 (wpAny_loadPart')
open MeetsSeq MeetsSeq2 MeetsSeq3 SeqRoads2
variable {prog : Program} {w : World}
end
section
variable {X : Cx} {C : C0} {G G' G0 G1 G2 : List Ent} {α β : Type} {r : Rp α} {s : Rp β} {a b : Expr} {pos : Pos}
end
end TL

namespace PySem
section
variable {M : Model} {A : Around} {E : Value → Shared → Prop} {s : Shared} {env : Env}
end
end PySem
namespace L2
open PySem PySem.Spec PyProof.Rows
section
variable {X : Cx} {pins pins5 : List (Addr × Obj)} {σ σ5 : St} {H3 H5 : Hp} {s3 s5 s' : Shared} {scope : Scope} {ce cenv : Env} {fp : List Addr} {E0 : XK} {W : WX} {u : Value}
end
end L2
namespace L2
open PySem PySem.Spec PyProof.Rows
section
variable {X : Cx} {E0 : XK} {pins : List (Addr × Obj)} {σ : St} {H H0 : Hp} {s s0 : Shared} {scope : Scope} {cenv : Env} {fp : List Addr}
end
section
variable {X : Cx} {E0 : XK}
end
end L2

namespace TL
open PySem PySem.Spec PyProof.Rows L2
def mapE {α β : Type} (f : α → Except Er β) : List α → Except Er (List β)
  | [] => .ok []
  | a :: l => thenE (f a) fun b => thenE (mapE f l) fun m => .ok (b :: m)
section
variable {α β : Type} {f : α → Except Er β}
theorem mapE_mem : ∀ {l : List α} {ev : Er}, mapE f l = .error ev → ∃ a ∈ l, f a = .error ev
  | [], ev, h => by cases h
  | a :: l, ev, h => by
    rw [mapE] at h
    cases e : f a with
    | error ev2 => rw [e] at h; cases h; exact ⟨a, List.mem_cons_self, e⟩
    | ok b =>
      rw [e] at h
      cases e2 : mapE f l with
      | error ev2 =>
        rw [e2] at h
        cases h
        obtain ⟨x, hx, e3⟩ := mapE_mem e2
        exact ⟨x, List.mem_cons_of_mem _ hx, e3⟩
      | ok m2 => rw [e2] at h; cases h
theorem ei_mapE {L : List Er} {l : List α} (h : ∀ a, EI L (f a)) : EI L (mapE f l) := fun e q => by
  obtain ⟨a, _, ea⟩ := mapE_mem q
  exact h a e ea
end
section
variable {C : C0} {G G' G0 G1 G2 : List Ent} {α β γ S : Type} {r : Rp α} {s : Rp β} {as : List α} {wi : TI} {g : TG} {tt : TT} {te : TE} {vs : List Nat} {K : PySem.W.Frag}
end
section
variable {X : Cx} {C : C0} {W : WX} {G G' G0 G1 : List Ent} {α β : Type} {r : Rp α} {s : Rp β} {it elt : Expr} {e : Expr} {es : List Expr} {scope : Scope} {pos p cpos : Pos} {x y : Str} {rest : List Stmt} {D : Ends}
end
end TL

namespace TL
open PySem PySem.Spec PyProof.Rows L2
section
variable {X : Cx} {C : C0} {G G1 : List Ent} {α : Type} [DecidableEq α] [Inhabited α] {r : Rp α} {e : Expr} {rest : List Stmt} {D : Ends}
end
end TL

namespace TL
open PySem PySem.Spec PyProof.Rows L2
section
variable {X : Cx} {C : C0} {W : WX} {G G1 G2 : List Ent} {α : Type} {r : Rp α} {e b : Expr} {es : List Expr} {p p2 pos apos cpos : Pos} {x f : Str} {rest : List Stmt} {D : Ends}
end
section
variable {X : Cx} {C : C0} {G G1 G2 : List Ent} {α : Type} [DecidableEq α] [Inhabited α] {r : Rp α} {e : Expr} {rest : List Stmt} {D : Ends}
end
section
variable {α : Type} [DecidableEq α]
end
section
variable {X : Cx} {C : C0} {G G1 G2 : List Ent} {α : Type} [DecidableEq α] {r : Rp α} [RD r] {a b : Expr}
end
section
variable {X : Cx} {C : C0} {G G1 G2 : List Ent} {α : Type} [DecidableEq α] {r : Rp α} [RD r] {a b : Expr} {pos : Pos}
end
section
variable {X : Cx}
end
section
variable {X : Cx} {C : C0} {G G1 G2 : List Ent} {a b : Expr} {pos : Pos}
end
end TL

namespace TL
open PySem PySem.Spec PyProof.Rows L2
def TS (B B' : Hp) : Prop := ∀ p xs, B p = some (.tup xs) → B' p = some (.tup xs)
class Tupy {α : Type} (r : Rp α) : Prop where
  t : ∀ {B B' : Hp} {v : V} {a : α}, TS B B' → r.rel B v a → r.rel B' v a
instance : Tupy TL.rI := ⟨fun _ h => h⟩
instance : Tupy TL.rB := ⟨fun _ h => h⟩
instance : Tupy TL.rS := ⟨fun _ h => h⟩
instance : Tupy TL.rN := ⟨fun _ h => h⟩
theorem tupy_all {α : Type} {r : Rp α} [Tupy r] {B B' : Hp} {vs : List V} {l : List α} (s : TS B B') (h : Paired (r.rel B) vs l) : Paired (r.rel B') vs l := h.mono fun _ _ h => Tupy.t s h
instance {α : Type} {r : Rp α} [Tupy r] : Tupy (rT r) := ⟨fun s h => by
  obtain ⟨p, vs, h1, h2, h3⟩ := h
  exact ⟨p, vs, h1, s _ _ h2, tupy_all s h3⟩⟩
instance {α β : Type} {r : Rp α} {s : Rp β} [Tupy r] [Tupy s] : Tupy (TL.rP r s) := ⟨fun e h => by
  obtain ⟨p, x, y, h1, h2, h3, h4⟩ := h
  exact ⟨p, x, y, h1, e _ _ h2, Tupy.t e h3, Tupy.t e h4⟩⟩
instance {α β γ : Type} {r : Rp α} {s : Rp β} {t : Rp γ} [Tupy r] [Tupy s] [Tupy t] : Tupy (TL.rP3 r s t) := ⟨fun e h => by
  obtain ⟨p, x, y, z, h1, h2, h3, h4, h5⟩ := h
  exact ⟨p, x, y, z, h1, e _ _ h2, Tupy.t e h3, Tupy.t e h4, Tupy.t e h5⟩⟩
instance {α : Type} {r : Rp α} [Tupy r] : Tupy (rO r) := ⟨fun {B B' v a} e h => by
  cases a with
  | none => exact h
  | some a => exact Tupy.t (r := r) e h⟩
def rAge (Bx : Hp) {α : Type} (r : Rp α) : Rp α := ⟨fun B v a => r.rel Bx v a ∧ Same Bx B, fun s h => ⟨h.1, h.2.trans s⟩⟩
def FirmAt (Bx : Hp) {α : Type} (r : Rp α) : Prop := ∀ B B' v a, Same Bx B' → TS B B' → r.rel B v a → r.rel B' v a
theorem firm_A {Bx : Hp} {α : Type} {r : Rp α} : FirmAt Bx (rAge Bx r) := fun B B' v a s _ h => ⟨h.1, s⟩
theorem firm_T {Bx : Hp} {α : Type} {r : Rp α} [Tupy r] : FirmAt Bx r := fun _ _ _ _ _ s h => Tupy.t s h
inductive FirmG (Bx : Hp) : List Ent → Prop
  | nil : FirmG Bx []
  | any {G : List Ent} : FirmG Bx G → FirmG Bx (.any :: G)
  | dat {α : Type} {r : Rp α} {a : α} {G : List Ent} (h : FirmAt Bx r) : FirmG Bx G → FirmG Bx (.dat r a :: G)
  | own {α : Type} {m : Bool} {r : Rp α} {l : List α} {G : List Ent} (h : FirmAt Bx r) : FirmG Bx G → FirmG Bx (.own m r l :: G)
  | ownT {α : Type} {m : Bool} {r : Rp α} {l : List (List Int × α)} {G : List Ent} (h : FirmAt Bx r) : FirmG Bx G → FirmG Bx (.ownT m r l :: G)
  | ownK {α : Type} {m : Bool} {r : Rp α} {l : List (Int × α)} {G : List Ent} (h : FirmAt Bx r) : FirmG Bx G → FirmG Bx (.ownK m r l :: G)
theorem FirmG.at {C : C0} {B B' H H' : Hp} {Bx : Hp} {G : List Ent} (f : FirmG Bx G) (s : Same Bx B') (ts : TS B B') (k : ∀ p o, H p = some o → B p = none → isTup o = false → H' p = some o ∧ B' p = none) : ∀ {i : Nat} {e : Ent} {ov : Option V}, G[i]? = some e → EntOk C B H e ov → EntOk C B' H' e ov := by
  have nx : ∀ {e0 : Ent} {G0 : List Ent} {i : Nat} {e : Ent} {ov : Option V}, (EntOk C B H e0 ov → EntOk C B' H' e0 ov) → (∀ {i : Nat} {e : Ent} {ov : Option V}, G0[i]? = some e → EntOk C B H e ov → EntOk C B' H' e ov) → (e0 :: G0)[i]? = some e → EntOk C B H e ov → EntOk C B' H' e ov := fun {e0 G0 i e ov} h0 ih hi => by
    cases i with
    | zero => cases hi; exact h0
    | succ i => exact ih hi
  induction f with
  | nil => intro i e ov h; cases h
  | any f ih => intro i e ov; exact nx (fun _ => trivial) ih
  | dat hr f ih => intro i e ov; exact nx (fun h => by obtain ⟨v, e1, e2⟩ := h; exact ⟨v, e1, hr _ _ _ _ s ts e2⟩) ih
  | own hr f ih =>
    intro i e ov
    exact nx (fun h => by
      obtain ⟨p, vs, e1, e2, ⟨e3, e4, e5⟩, e6⟩ := h
      obtain ⟨k1, k2⟩ := k p _ e2 e3 rfl
      exact ⟨p, vs, e1, k1, ⟨k2, e4, e5⟩, e6.mono fun _ _ h => hr _ _ _ _ s ts h⟩) ih
  | ownT hr f ih =>
    intro i e ov
    exact nx (fun h => by
      obtain ⟨p, vs, e1, e2, ⟨e3, e4, e5⟩, e6⟩ := h
      obtain ⟨k1, k2⟩ := k p _ e2 e3 rfl
      exact ⟨p, vs, e1, k1, ⟨k2, e4, e5⟩, Paired.mono (fun _ _ h => ⟨h.1, hr _ _ _ _ s ts h.2⟩) e6⟩) ih
  | ownK hr f ih =>
    intro i e ov
    exact nx (fun h => by
      obtain ⟨p, vs, e1, e2, ⟨e3, e4, e5⟩, e6⟩ := h
      obtain ⟨k1, k2⟩ := k p _ e2 e3 rfl
      exact ⟨p, vs, e1, k1, ⟨k2, e4, e5⟩, Paired.mono (fun _ _ h => ⟨h.1, hr _ _ _ _ s ts h.2⟩) e6⟩) ih
def Fresh (C : C0) (q : Addr) : Prop := C.B1 q = none ∧ C.B0 q = none ∧ C.H0 q = none
theorem Ok.chg {C : C0} {G : List Ent} {B H : Hp} {σ : L2.St} (O : Ok C G B H σ) (f : FirmG C.B1 G) {q : Addr} {ws ws' : List V} (hq : Fresh C q) (h4 : B q = some (.lst ws)) (hs : ws'.length ≤ sizeLine) :
    Ok C G (upd B q (.lst ws')) (upd H q (.lst ws')) σ ∧ Same C.B1 (upd B q (.lst ws')) ∧ TS B (upd B q (.lst ws')) := by
  obtain ⟨h1, h2, h3⟩ := hq
  have hH : H q = some (.lst ws) := O.g.kn.x h4 rfl
  have s1 : Same C.B1 (upd B q (.lst ws')) := fun b x e => by
    rw [upd_ne (ne_of_none e h1)]; exact O.h1 b x e
  have ts : TS B (upd B q (.lst ws')) := fun b x e => by
    rw [upd_ne (fun z => by rw [z, h4] at e; cases e)]; exact e
  refine ⟨⟨⟨fun b x e => ?_, fun a u e => ?_, fun b o nb e => ?_, fun b o e => ?_, fun b o e t => ?_, fun b e => ?_, fun b e => ?_, fun b o e => ?_⟩, s1, O.len, fun i e ov hi hv => ?_, O.sep⟩, s1, ts⟩
  · rw [upd_ne (ne_of_none e h2)]; exact O.g.bb b x e
  · by_cases c : a = q
    · subst c; rw [upd_same] at e; cases e; exact .inl upd_same
    · rw [upd_ne c] at e ⊢; exact O.g.kn a u e
  · have c := ne_of_none e h3
    rw [upd_ne c, upd_ne c]; exact O.g.hh b o nb e
  · rw [upd_ne (ne_of_none e h3)]; exact O.g.mm b o e
  · rw [upd_ne (ne_of_none e h3)]; exact O.g.nw b o e t
  · obtain ⟨od, o, h⟩ := O.g.hl b e
    have c : b ≠ q := fun z => by rw [z, hH] at h; cases h
    rw [upd_ne c]; exact ⟨od, o, h⟩
  · obtain ⟨k1, k2, k3⟩ := O.g.ml b e
    have c : b ≠ q := fun z => by rw [z] at k1; exact k1 h3
    rw [upd_ne c, upd_ne c]; exact ⟨k1, k2, k3⟩
  · by_cases c : b = q
    · subst c; rw [upd_same] at e; cases e; exact hs
    · rw [upd_ne c] at e; exact O.g.sm b o e
  · refine f.at s1 ts (fun p o e1 e2 _ => ?_) hi (O.ent i e ov hi hv)
    have c : p ≠ q := fun z => by rw [z, h4] at e2; cases e2
    rw [upd_ne c, upd_ne c]; exact ⟨e1, e2⟩
def fTb {α : Type} (r : Rp α) : RF (List (List α)) where
  rel := fun B v tbl L => ∃ p qs, v = .ref p ∧ L = p :: qs ∧ B p = some (.lst (qs.map V.ref)) ∧ Paired (fun q row => ∃ ws, B q = some (.lst ws) ∧ Paired (r.rel B) ws row) qs tbl
  mono := fun s h => by
    obtain ⟨p, qs, e1, e2, e3, e4⟩ := h
    exact ⟨p, qs, e1, e2, s _ _ e3, e4.mono fun q row h => by
      obtain ⟨ws, k1, k2⟩ := h
      exact ⟨ws, s _ _ k1, paired_mono s k2⟩⟩
  lst := fun {B v tbl L} h q hq => by
    obtain ⟨p, qs, e1, e2, e3, e4⟩ := h
    subst e2
    rcases List.mem_cons.mp hq with rfl | hq
    · exact ⟨_, e3, rfl⟩
    · clear e3
      induction e4 with
      | nil => cases hq
      | cons h _ ih =>
        rcases List.mem_cons.mp hq with rfl | hq
        · obtain ⟨ws, k1, _⟩ := h; exact ⟨_, k1, rfl⟩
        · exact ih (List.mem_cons_of_mem _ hq) hq
def rTold (P : Addr → Prop) {α : Type} (F : RF α) : Rp α := ⟨fun B v a => ∃ L, F.rel B v a L ∧ L.Nodup ∧ ∀ q ∈ L, P q, fun s h => by
  obtain ⟨L, h1, h2, h3⟩ := h
  exact ⟨L, F.mono s h1, h2, h3⟩⟩
def Fits {α : Type} (F : RF α) (r : Rp α) : Prop := ∀ {B v a L}, F.rel B v a L → r.rel B v a
section
variable {X : Cx} {C : C0} {G G' G0 G1 G2 Gp : List Ent} {α β : Type} {r : Rp α} {s : Rp β} {a : α} {e ex b : Expr} {rest : List Stmt} {D : Ends} {te : TE} {x : Str} {i : Nat} {p pos apos cpos spos : Pos}
theorem Ev.conv {c : β} (h : Ev C te G G1 (.dat r a)) (k : ∀ B v, r.rel B v a → s.rel B v c) : Ev C te G G1 (.dat s c) := Ev.mk fun B H σ O Q q => h.go O fun v B' H' O' s' hv => q v B' H' O' s' (k _ _ hv)
theorem x_unAge {Bx : Hp} (h : XE X C e G G1 (.dat (rAge Bx r) a)) : XE X C e G G1 (.dat r a) := Ev.conv h fun _ _ h => r.mono h.2 h.1
theorem x_toldD {P : Addr → Prop} {F : RF α} (ft : Fits F r) (h : XE X C e G G1 (.dat (rTold P F) a)) : XE X C e G G1 (.dat r a) := Ev.conv h fun _ _ h => by
  obtain ⟨L, h1, _⟩ := h
  exact ft h1
theorem Ev.tldD {F : RF α} (ft : Fits F r) (h : Ev C te G G1 (.tld F a)) : Ev C te G G1 (.dat r a) := fun B H σ O Q q => h B H σ O Q fun v B' H' O' s' hv ha => q v B' H' O' s' (by
  obtain ⟨u, L, e1, e2, _⟩ := hv
  exact ⟨u, e1, ft e2⟩) fun z => nomatch z
theorem Ev.isT {F : RF α} {c : α} (h : Ev C te G G1 (.tld F a)) (q : a = c) : Ev C te G G1 (.tld F c) := q ▸ h
inductive Aged (Bx : Hp) : List Ent → List Ent → List Ent → Prop
  | nil : Aged Bx [] [] []
  | any {e : Ent} {G Gp G' : List Ent} : Aged Bx G Gp G' → Aged Bx (e :: G) (.any :: Gp) (.any :: G')
  | dat {α : Type} {r : Rp α} {a : α} {G Gp G' : List Ent} : Aged Bx G Gp G' → Aged Bx (.dat r a :: G) (.dat r a :: Gp) (.dat (rAge Bx r) a :: G')
  | own {α : Type} {m : Bool} {r : Rp α} {l : List α} {G Gp G' : List Ent} : Aged Bx G Gp G' → Aged Bx (.own m r l :: G) (.any :: Gp) (.own m r l :: G')
  | ownT {α : Type} {m : Bool} {r : Rp α} {l : List (List Int × α)} {G Gp G' : List Ent} : Aged Bx G Gp G' → Aged Bx (.ownT m r l :: G) (.any :: Gp) (.ownT m r l :: G')
  | ownK {α : Type} {m : Bool} {r : Rp α} {l : List (Int × α)} {G Gp G' : List Ent} : Aged Bx G Gp G' → Aged Bx (.ownK m r l :: G) (.any :: Gp) (.ownK m r l :: G')
theorem Aged.len {Bx : Hp} {G Gp G' : List Ent} (h : Aged Bx G Gp G') : G.length = Gp.length ∧ G.length = G'.length := by
  induction h with
  | nil => exact ⟨rfl, rfl⟩
  | _ h ih => exact ⟨congrArg (· + 1) ih.1, congrArg (· + 1) ih.2⟩
theorem Aged.plain {Bx : Hp} {G Gp G' : List Ent} (h : Aged Bx G Gp G') : Plain Gp := by
  induction h with
  | nil => exact plain_nil
  | dat h ih => exact plain_cons rfl ih
  | any h ih => exact plain_cons rfl ih
  | own h ih => exact plain_cons rfl ih
  | ownT h ih => exact plain_cons rfl ih
  | ownK h ih => exact plain_cons rfl ih
theorem Aged.low {Bx : Hp} {G Gp G' : List Ent} (h : Aged Bx G Gp G') : ∀ {i : Nat} {e : Ent}, Gp[i]? = some e → e = .any ∨ G[i]? = some e := by
  have nx : ∀ {e0 e1 : Ent} {G0 G1 : List Ent}, (e1 = .any ∨ e0 = e1) → (∀ {i : Nat} {e : Ent}, G1[i]? = some e → e = .any ∨ G0[i]? = some e) → ∀ {i : Nat} {e : Ent}, (e1 :: G1)[i]? = some e → e = .any ∨ (e0 :: G0)[i]? = some e := fun {e0 e1 G0 G1} h0 ih {i e} hi => by
    cases i with
    | zero =>
      cases hi
      rcases h0 with h0 | h0
      · exact .inl h0
      · exact .inr (by rw [h0]; rfl)
    | succ i => exact ih hi
  induction h with
  | nil => intro i e h; cases h
  | dat h ih => exact nx (.inr rfl) ih
  | any h ih => exact nx (.inl rfl) ih
  | own h ih => exact nx (.inl rfl) ih
  | ownT h ih => exact nx (.inl rfl) ih
  | ownK h ih => exact nx (.inl rfl) ih
theorem Aged.high {C C' : C0} {B H B' H' : Hp} {G Gp G' : List Ent} (h : Aged B G Gp G') (s : Same B B') (f : Fr B H B' H') (hc : ∀ m p, Mine C B m p → B' p = none → Mine C' B' m p) : ∀ {i : Nat} {e' : Ent}, G'[i]? = some e' → e' = .any ∨ ∃ e, G[i]? = some e ∧ e.mine = e'.mine ∧ ∀ ov, EntOk C B H e ov → EntOk C' B' H' e' ov := by
  have nx : ∀ {e0 e1 : Ent} {G0 G1 : List Ent}, (e1 = .any ∨ (e0.mine = e1.mine ∧ ∀ ov, EntOk C B H e0 ov → EntOk C' B' H' e1 ov)) → (∀ {i : Nat} {e' : Ent}, G1[i]? = some e' → e' = .any ∨ ∃ e, G0[i]? = some e ∧ e.mine = e'.mine ∧ ∀ ov, EntOk C B H e ov → EntOk C' B' H' e' ov) → ∀ {i : Nat} {e' : Ent}, (e1 :: G1)[i]? = some e' → e' = .any ∨ ∃ e, (e0 :: G0)[i]? = some e ∧ e.mine = e'.mine ∧ ∀ ov, EntOk C B H e ov → EntOk C' B' H' e' ov := fun {e0 e1 G0 G1} h0 ih {i e} hi => by
    cases i with
    | zero =>
      cases hi
      rcases h0 with h0 | h0
      · exact .inl h0
      · exact .inr ⟨e0, rfl, h0⟩
    | succ i => exact ih hi
  induction h with
  | nil => intro i e h; cases h
  | @any e G Gp G' h ih => exact nx (e0 := e) (e1 := .any) (.inl rfl) ih
  | @dat α r a G Gp G' h ih => exact nx (e0 := .dat r a) (e1 := .dat (rAge B r) a) (.inr ⟨rfl, fun ov h => by obtain ⟨v, e1, e2⟩ := h; exact ⟨v, e1, e2, s⟩⟩) ih
  | @own α m r l G Gp G' h ih => exact nx (e0 := .own m r l) (e1 := .own m r l) (.inr ⟨rfl, fun ov h => by
      obtain ⟨p, vs, e1, e2, e3, e6⟩ := h
      obtain ⟨k1, k2⟩ := f p _ e2 e3.1 rfl
      exact ⟨p, vs, e1, k1, hc _ _ e3 k2, paired_mono s e6⟩⟩) ih
  | @ownT α m r l G Gp G' h ih => exact nx (e0 := .ownT m r l) (e1 := .ownT m r l) (.inr ⟨rfl, fun ov h => by
      obtain ⟨p, vs, e1, e2, e3, e6⟩ := h
      obtain ⟨k1, k2⟩ := f p _ e2 e3.1 rfl
      exact ⟨p, vs, e1, k1, hc _ _ e3 k2, e6.mono s⟩⟩) ih
  | @ownK α m r l G Gp G' h ih => exact nx (e0 := .ownK m r l) (e1 := .ownK m r l) (.inr ⟨rfl, fun ov h => by
      obtain ⟨p, vs, e1, e2, e3, e6⟩ := h
      obtain ⟨k1, k2⟩ := f p _ e2 e3.1 rfl
      exact ⟨p, vs, e1, k1, hc _ _ e3 k2, e6.mono s⟩⟩) ih
theorem told_core {F : RF α} {G' : Hp → List Ent} (ag : ∀ Bx, Aged Bx G Gp (G' Bx)) (he : ∀ B H, Ev (Cr B H) te Gp Gp (.tld F a))
    (k : ∀ (Bx : Hp) (P : Addr → Prop), Same C.B1 Bx → (∀ q, P q ↔ Fresh (C.hold Bx) q) → GS X (C.hold Bx) ((G' Bx).set i (.dat (rTold P F) a)) rest D) :
    ∀ B H σ, Ok C G B H σ → te σ H fun v H' => wSs X rest D (σ.set i (some v)) H' := fun B H σ O => by
  have O1 : Ok C Gp B H σ := O.weaken (ag B).len.1.symm fun j e hj => (ag B).low hj
  refine he B H B H σ (O1.rebase (ag B).plain) _ fun v B' H' O' s1 hv _ => ?_
  obtain ⟨O2, s2, f2⟩ := O1.reback O' (ag B).plain
  obtain ⟨u, L, e1, e2, e3, e4⟩ := hv
  cases e1
  have O3 : Ok (C.hold B) (G' B) B' H' σ := by
    refine ⟨O2.g, s2, O.len.trans (ag B).len.2, fun j e ov hj hs => ?_, fun j j' e e' q n hj hj' m m' hs hs' => ?_⟩
    · rcases (ag B).high (C := C) (C' := C.hold B) s2 f2 (fun m p h hb => ⟨hb, h.2⟩) hj with rfl | ⟨e0, h1, _, h3⟩
      · trivial
      · exact h3 ov (O.ent j e0 ov h1 hs)
    · rcases (ag B).high (C := C) (C' := C.hold B) s2 f2 (fun m p h hb => ⟨hb, h.2⟩) hj with rfl | ⟨e0, h1, h2, _⟩
      · cases m
      · rcases (ag B).high (C := C) (C' := C.hold B) s2 f2 (fun m p h hb => ⟨hb, h.2⟩) hj' with rfl | ⟨e0', h1', h2', _⟩
        · cases m'
        · exact O.sep j j' e0 e0' q n h1 h1' (by rw [h2]; exact m) (by rw [h2']; exact m') hs hs'
  exact k B (Fresh (C.hold B)) O.h1 (fun q => Iff.rfl) B' H' _ (O3.storeD ⟨L, e2, e3, fun q hq => by
    have hq' : H q = none := e4 q hq
    have hb : B q = none := by
      cases z : B q with
      | none => rfl
      | some u =>
        rcases O.g.kn q u z with y | ⟨_, _, y⟩ <;> rw [hq'] at y <;> cases y
    refine ⟨hb, ?_, O.g.old hq'⟩
    cases z : C.B0 q with
    | none => rfl
    | some u => rw [O.g.bb q u z] at hb; cases hb⟩)
theorem gs_told {F : RF α} {G' : Hp → List Ent} (hN : X.N.Nodup) (hi : X.N[i]? = some x) (hx : Loc X.env.scope x) (ag : ∀ Bx, Aged Bx G Gp (G' Bx)) (he : ∀ B H, XE X (Cr B H) ex Gp Gp (.tld F a))
    (k : ∀ (Bx : Hp) (P : Addr → Prop), Same C.B1 Bx → (∀ q, P q ↔ Fresh (C.hold Bx) q) → GS X (C.hold Bx) ((G' Bx).set i (.dat (rTold P F) a)) rest D)
    (hs : swapsWith ex (some (.Name x p)) pos.line X.env = pure false := by rfl) (hf : X.fn x = true ∨ X.env.scope.names.lookup x = some .local := by first | exact .inl rfl | exact .inr rfl) :
    GS X C G (.Assign [.Name x p] ex pos :: rest) D := fun B H σ O => w_ps (ps_set hN hi hx (pe_w ex) hs hf) (told_core ag he k B H σ O)
inductive Unaged (Bx : Hp) : List Ent → List Ent → Prop
  | nil : Unaged Bx [] []
  | drop {e : Ent} {G G' : List Ent} : Unaged Bx G G' → Unaged Bx (e :: G) (.any :: G')
  | keep {e : Ent} {G G' : List Ent} : Unaged Bx G G' → Unaged Bx (e :: G) (e :: G')
  | age {α : Type} {r : Rp α} {a : α} {G G' : List Ent} : Unaged Bx G G' → Unaged Bx (.dat (rAge Bx r) a :: G) (.dat r a :: G')
theorem Unaged.get {Bx : Hp} {G G' : List Ent} (h : Unaged Bx G G') : ∀ {i : Nat} {e : Ent}, G'[i]? = some e → e = .any ∨ G[i]? = some e ∨ ∃ (α : Type) (r : Rp α) (a : α), e = .dat r a ∧ G[i]? = some (.dat (rAge Bx r) a) := by
  induction h with
  | nil => intro i e h; cases h
  | drop h ih =>
    intro i e hi
    cases i with
    | zero => cases hi; exact .inl rfl
    | succ i => exact ih hi
  | keep h ih =>
    intro i e hi
    cases i with
    | zero => cases hi; exact .inr (.inl rfl)
    | succ i => exact ih hi
  | age h ih =>
    intro i e hi
    cases i with
    | zero => cases hi; exact .inr (.inr ⟨_, _, _, rfl, rfl⟩)
    | succ i => exact ih hi
theorem Unaged.len {Bx : Hp} {G G' : List Ent} (h : Unaged Bx G G') : G.length = G'.length := by
  induction h with
  | nil => rfl
  | _ h ih => exact congrArg (· + 1) ih
theorem gs_unage {Bx : Hp} {sts : List Stmt} (s : Same C.B1 Bx) (u : Unaged Bx G G') (k : GS X C G' sts D) : GS X (C.hold Bx) G sts D := fun B H σ O => k B H σ (by
  refine Ok.unhold (B1 := Bx) ⟨O.g, O.h1, O.len.trans u.len, fun j e ov hj hs => ?_, fun j j' e e' q n hj hj' m m' hs hs' => ?_⟩ (s.trans O.h1)
  · rcases u.get hj with rfl | h | ⟨α, r, a, rfl, h⟩
    · trivial
    · exact O.ent j e ov h hs
    · obtain ⟨v, e1, e2, e3⟩ := O.ent j _ ov h hs
      exact ⟨v, e1, r.mono e3 e2⟩
  · rcases u.get hj with rfl | h | ⟨α, r, a, rfl, h⟩
    · cases m
    · rcases u.get hj' with rfl | h' | ⟨α, r, a, rfl, h'⟩
      · cases m'
      · exact O.sep j j' e e' q n h h' m m' hs hs'
      · cases m'
    · cases m)
end
end TL
namespace TL
open PySem PySem.Spec PyProof.Rows L2
end TL

namespace TL
open PySem PySem.Spec PyProof.Rows L2
section
variable {C : C0} {G G' G0 G1 G2 Gp : List Ent} {α β : Type} {r : Rp α} {s : Rp β} {as : List α} {wi : TI} {g : TG} {tt : TT} {te : TE} {vs : List Nat}
theorem nodup_snoc {q : Addr} {qs : List Addr} (h : qs.Nodup) (n : q ∉ qs) : (qs ++ [q]).Nodup := by
  rw [List.nodup_append]
  refine ⟨h, List.nodup_cons.mpr ⟨List.not_mem_nil, List.nodup_nil⟩, fun a ha b hb => ?_⟩
  rw [List.mem_singleton.mp hb]
  exact fun z => n (z ▸ ha)
theorem ev_lcT (src : Src C wi G G0 r as) (f : α → List β) (no : NoOwn G0 vs)
    (hs : ∀ (C1 : C0) (a : α), a ∈ as → ∃ Gt, TgC C1 g r a vs G0 Gt ∧ EvT C1 tt Gt Gt true ∧ (∀ k, k ∉ vs → Gt[k]? = G0[k]?) ∧ Ev C1 te Gt Gt (.own false s (f a))) :
    Ev C (tLc wi g tt te vs) G G0 (.tld (fTb s) (as.map f)) := fun B H σ O Q q => by
  refine src B H σ O _ fun J B1 H1 O1 s1 hz hJ Dl hD => ?_
  obtain ⟨O2, ⟨m1, m2, m3⟩, m4, m5⟩ := O1.made (o := .lst []) hD (Nat.zero_le _)
  have hB0 : C.B0 Dl = none := by
    cases e : C.B0 Dl with
    | none => rfl
    | some u => rw [O1.g.bb Dl u e] at m1; cases m1
  let W : Nat → Hp → Prop := fun i H' => ∃ B', Ok (C.hold B1) G0 B' H' σ ∧ B' Dl = none ∧ Apart G0 σ Dl ∧ ∃ qs, H' Dl = some (.lst (qs.map V.ref)) ∧ qs.Nodup ∧ (∀ q ∈ qs, C.H0 q = none) ∧ Paired (fun q row => ∃ ws, B' q = some (.lst ws) ∧ Paired (s.rel B') ws row) qs ((as.take i).map f)
  refine ⟨fun i m H' => i + m = as.length ∧ W i H', ⟨as.length, Nat.zero_add _, B1, O2.hold (Same.refl _), m1, m4, [], upd_same, List.nodup_nil, fun _ h => absurd h List.not_mem_nil, by rw [List.take_zero]; exact .nil⟩, fun i m H' hW => ?_⟩
  obtain ⟨em, B', O', hB', hap, qs, hqs, nd, hq0, hpq⟩ := hW
  have hlen : qs.length = i := by
    rw [hpq.length, List.length_map, List.length_take]; omega
  obtain ⟨j1, j2⟩ := hJ (C.see Dl (.lst (qs.map V.ref)) B1) i _ B' H' σ (O'.see (C := C.hold B1) hqs hB' m3 m2 hap O'.h1) O'.h1
  cases e : as[i]? with
  | none =>
    have hi : as.length ≤ i := List.getElem?_eq_none_iff.mp e
    have ei : i = as.length := by omega
    refine .inl ⟨j1 hi, ?_⟩
    have O4 : Ok C G0 B' H' σ := O'.unhold (O1.h1.trans O'.h1)
    obtain ⟨O5, s5⟩ := O4.known hqs hB' (.inl m3) hap
    refine q (.ref Dl) _ H' O5 ((s1.trans O'.h1).trans s5) ⟨_, Dl :: qs, rfl, ⟨Dl, qs, rfl, rfl, upd_same, ?_⟩, ?_, ?_⟩ fun z => nomatch z
    · have et : as.take i = as := by rw [ei, List.take_length]
      rw [et] at hpq
      exact hpq.mono fun q row h => by
        obtain ⟨ws, k1, k2⟩ := h
        exact ⟨ws, s5 _ _ k1, paired_mono s5 k2⟩
    · refine List.nodup_cons.mpr ⟨fun h => ?_, nd⟩
      have : ∀ {qs : List Addr} {rows : List (List β)}, Paired (fun q row => ∃ ws, B' q = some (.lst ws) ∧ Paired (s.rel B') ws row) qs rows → Dl ∈ qs → False := fun h => by
        induction h with
        | nil => intro z; cases z
        | cons h _ ih =>
          intro z
          rcases List.mem_cons.mp z with z | z
          · obtain ⟨ws, k1, _⟩ := h
            rw [← z, hB'] at k1; cases k1
          · exact ih z
      exact this hpq h
    · intro q hq
      rcases List.mem_cons.mp hq with rfl | hq
      · exact m3
      · exact hq0 q hq
  | some a =>
    have hi : i < as.length := lt_get e
    obtain ⟨q1, q2⟩ := j2 a e
    refine .inr ⟨q1, W (i + 1), fun H2 h2 => ⟨m - 1, by omega, by omega, h2⟩, fun x H2 hy => ?_⟩
    obtain ⟨B3, O3, s3, hx⟩ := q2 x H2 hy
    obtain ⟨Gt, t1, t2, t3, t4⟩ := hs (C.see Dl (.lst (qs.map V.ref)) B1) a (List.mem_of_getElem? e)
    refine t1 B3 H2 σ x O3 hx _ fun σ4 B4 H4 O4 s4 w4 w5 => ⟨w4, t2 B4 H4 σ4 O4 _ fun B5 H5 O5 s5 => ?_⟩
    refine iteT ?_
    refine t4 B5 H5 σ4 O5 _ fun y B6 H6 O6 s6 hy6 hap6 => ?_
    obtain ⟨p, ws, e1, e2, ⟨e3, e4, e5⟩, e6⟩ := hy6
    cases e1
    rw [if_neg Bool.false_ne_true] at e5
    obtain ⟨O6', s6'⟩ := O6.known e2 e3 (.inl e5) (hap6 rfl p rfl)
    have nDl : p ≠ Dl := fun z => by
      rw [show (C.see Dl (.lst (qs.map V.ref)) B1).H0 = upd C.H0 Dl (.lst (qs.map V.ref)) from rfl, z, upd_same] at e5; cases e5
    have p0 : C.H0 p = none := by
      rw [show (C.see Dl (.lst (qs.map V.ref)) B1).H0 = upd C.H0 Dl (.lst (qs.map V.ref)) from rfl, upd_ne nDl] at e5; exact e5
    have O7 : Ok (C.see Dl (.lst (qs.map V.ref)) B1) G0 (upd B6 p (.lst ws)) H6 σ := O3.back O6' (((s4.trans s5).trans s6).trans s6') w5 rfl (fun k hk => (t3 k hk).symm) (fun k hk => rfl) no
    obtain ⟨v1, v2, v3, v4⟩ := O7.unsee m3 m2 m5 hB0 rfl
    have sAll : Same B' (upd B6 p (.lst ws)) := (((s3.trans s4).trans s5).trans s6).trans s6'
    have sB6 : Same B' B6 := ((s3.trans s4).trans s5).trans s6
    have hlt : (qs.map V.ref).length < sizeLine := by
      rw [List.length_map, hlen]
      exact Nat.lt_of_lt_of_le hi hz
    refine ⟨qs.map V.ref, v1, hlt, upd B6 p (.lst ws), v4 _ (by show ((qs.map V.ref) ++ [V.ref p]).length ≤ sizeLine; rw [List.length_append]; exact hlt), v2, v3, qs ++ [p], ?_, ?_, ?_, ?_⟩
    · rw [List.map_append]; exact upd_same
    · refine nodup_snoc nd fun h => ?_
      have : ∀ {qs : List Addr} {rows : List (List β)}, Paired (fun q row => ∃ ws, B' q = some (.lst ws) ∧ Paired (s.rel B') ws row) qs rows → p ∈ qs → False := fun h => by
        induction h with
        | nil => intro z; cases z
        | cons h _ ih =>
          intro z
          rcases List.mem_cons.mp z with z | z
          · obtain ⟨ws, k1, _⟩ := h
            have := sB6 _ _ k1
            rw [← z, e3] at this; cases this
          · exact ih z
      exact this hpq h
    · intro q hq
      rcases List.mem_append.mp hq with hq | hq
      · exact hq0 q hq
      · rw [List.mem_singleton.mp hq]; exact p0
    · rw [List.take_add_one, e, List.map_append]
      refine Paired.snoc (hpq.mono fun q row h => ?_) ⟨ws, upd_same, paired_mono s6' e6⟩
      obtain ⟨ws, k1, k2⟩ := h
      exact ⟨ws, sAll _ _ k1, paired_mono sAll k2⟩
end
section
variable {X : Cx} {C : C0} {G G' G0 G1 G2 Gp : List Ent} {α β : Type} {r : Rp α} {s : Rp β} {as : List α} {e ex b it elt : Expr} {rest body : List Stmt} {D : Ends} {te : TE} {x y : Str} {i : Nat} {p pos apos cpos spos : Pos} {scope : Scope}
theorem x_lc0T {n : Str} {tp : Pos} {f : α → List β} (j : Nat) (w : Wk X C (.Name n tp) it G G0 r as) (no : NoOwn G0 [j]) (he : ∀ (C1 : C0) (v : α), v ∈ as → ∀ s0 H0 c0 cl fp, XE (Cx.bl X scope s0 H0 c0 cl fp) C1 elt (G0.set j (.dat r v)) (G0.set j (.dat r v)) (.own false s (f v)))
    (hN : X.N.Nodup) (ok : BlkOk X.N X.env.scope scope [(n, j)]) (hg : ∀ (s : Shared) (H : Hp) (c0 : Addr) (cl : List (Str × Addr)) (fp : List Addr), PG (X.blk s H scope (compEnvC scope cl c0 X.env) fp) (.Name n tp) (gName j)) (hc : X.calm = true := by rfl) :
    XE X C (.ListComp elt [⟨.Name n tp, it, [], 0⟩] scope pos) G G0 (.tld (fTb s) (as.map f)) := by
  have h := ev_lcT (C := C) (vs := [j]) (tt := tYes) (te := bE X scope elt) (g := gName j) (s := s) w.src f no fun C1 v hv => ⟨_, tgc_name, fun B H σ O Q q => q B H O (Same.refl _), fun k hk => List.getElem?_set_ne (fun z => hk (by rw [← z]; exact List.mem_singleton.mpr rfl)), bE_of (he C1 v hv)⟩
  exact x_of (pe_lc (own := [(n, j)]) hc hN w.pi ok hg (fun _ _ _ _ _ => pts_nil) pe_b w.fs) h
theorem Ok.tell {a : α} {B H : Hp} {σ : L2.St} {v : V} (O : Ok C (G.set i .any) B H σ) (hi : i < G.length) (hs : σ[i]? = some (some v)) (h : r.rel B v a) : Ok C (G.set i (.dat r a)) B H σ := by
  have := O.storeD (i := i) h
  rw [List.set_set] at this
  rwa [show σ.set i (some v) = σ from by
    refine List.ext_getElem? fun k => ?_
    by_cases z : i = k
    · subst z
      rw [List.getElem?_set_self (by rw [O.len, List.length_set]; exact hi), hs]
    · rw [List.getElem?_set_ne z]] at this
theorem Ok.drop {B H : Hp} {σ : L2.St} (O : Ok C G B H σ) : Ok C (G.set i .any) B H σ := O.weaken (by rw [List.length_set]) fun j e hj => by
  by_cases z : i = j
  · subst z
    by_cases h : i < G.length
    · rw [List.getElem?_set_self h] at hj; cases hj; exact .inl rfl
    · rw [List.getElem?_eq_none (by rw [List.length_set]; omega)] at hj; cases hj
  · rw [List.getElem?_set_ne z] at hj; exact .inr hj
theorem Ok.newList {B H : Hp} {σ : L2.St} {l : List α} {v : V} (O : Ok C G B H σ) (hv : EntOk C B H (.own false r l) (some v)) (ap : ∀ p, v = .ref p → Apart G σ p) : ∃ q ws, v = .ref q ∧ B q = none ∧ Fresh C q ∧ Ok C G (upd B q (.lst ws)) H σ ∧ Same B (upd B q (.lst ws)) ∧ Paired (r.rel (upd B q (.lst ws))) ws l := by
  obtain ⟨p, vs, e1, e2, ⟨e3, e4, e5⟩, e6⟩ := hv
  cases e1
  rw [if_neg Bool.false_ne_true] at e5
  obtain ⟨O2, s2⟩ := O.known e2 e3 (.inl e5) (ap p rfl)
  refine ⟨p, vs, rfl, e3, ⟨?_, ?_, e5⟩, O2, s2, paired_mono s2 e6⟩
  · cases z : C.B1 p with
    | none => rfl
    | some u => have := O.h1 _ _ z; rw [e3] at this; cases this
  · cases z : C.B0 p with
    | none => rfl
    | some u => have := O.g.bb _ _ z; rw [e3] at this; cases this
def SrcR (C : C0) (wi : TI) (G G' : List Ent) (as : List Int) : Prop := ∀ B H σ, Ok C G B H σ → ∀ R : It → Hp → Prop,
  (∀ J B' H', Ok C G' B' H' σ → Same B B' → as.length ≤ sizeLine → (∀ C1 : C0, ItOk C1 J TL.rI as (fun _ => none)) → R J H') → wi σ H R
structure WkR (X : Cx) (C : C0) (tg it : Expr) (G G' : List Ent) (as : List Int) where
  wi : TI
  pi : PI X tg it wi
  src : SrcR C wi G G' as
  fs : ∀ x, foldedSetIterable it X.env x = pure x
theorem gs_forWR {wi : TI} {g : TG} {tg : Expr} {as : List Int} (hp : PassesOwn (model X.prog X.w) X.A X.env X.xe) (hc : X.calm = true) (hi : PI X tg it wi) (hg : PG X tg g) (W : Nat → List Ent → Prop) (src : SrcR C wi G G0 as) (h0 : W 0 G0)
    (hs : ∀ (i : Nat) (a : Int) (Gi : List Ent), as[i]? = some a → W i Gi → ∃ Gt, Tg C g TL.rI a Gi Gt ∧ GS X C Gt body { D with nx := AtW C W (i + 1), ct := AtW C W (i + 1), bk := wSs X rest D })
    (k : ∀ Gn, W as.length Gn → GS X C Gn rest D) (hfs : ∀ x, foldedSetIterable it X.env x = pure x := by intro _; rfl) : GS X C G (.For tg it body [] pos :: rest) D := fun B H σ O => by
  refine w_ps (ps_for hp hc hi hg (pss_w body) hfs) ?_
  refine src B H σ O _ fun J B1 H1 O1 s1 hsz hJ => ?_
  refine ⟨fun i m σ' H' => i + m = as.length ∧ AtW C W i σ' H', ⟨as.length, Nat.zero_add _, G0, h0, B1, O1⟩, fun i m σ' H' hW => ?_⟩
  obtain ⟨em, Gi, hGi, B2, O2⟩ := hW
  obtain ⟨j1, j2⟩ := hJ C i Gi B2 H' σ' O2 (fun _ _ h => by cases h)
  cases e : as[i]? with
  | none =>
    have hi : as.length ≤ i := List.getElem?_eq_none_iff.mp e
    have ei : i = as.length := by omega
    exact .inl ⟨j1 hi, k Gi (ei ▸ hGi) B2 H' σ' O2⟩
  | some a =>
    obtain ⟨q1, q2⟩ := j2 a e
    have hi : i < as.length := lt_get e
    refine .inr ⟨q1, AtW C W (i + 1), fun σ2 H2 h2 => ⟨m - 1, by omega, by omega, h2⟩, fun x H2 hy => ?_⟩
    obtain ⟨B3, O3, s3, hx⟩ := q2 x H2 hy
    obtain ⟨Gt, t1, t2⟩ := hs i a Gi e hGi
    exact t1 B3 H2 σ' x O3 hx _ fun σ4 B4 H4 O4 s4 => t2 B4 H4 σ4 O4
end
end TL

namespace TL
open PySem PySem.Spec PyProof.Rows L2
section
variable {C : C0} {G G' G0 G1 G2 : List Ent} {ι : Type} {F : FS ι} {te : TE} {ta : TA} {as : List Arg} {E : XK}
end
end TL
namespace TL
open PySem PySem.Spec PyProof.Rows L2
section
variable {X : Cx} {C : C0} {G G' G0 G1 : List Ent} {α β S : Type} {r : Rp α} {s : Rp β} {it elt : Expr} {pos spos : Pos} {as : List α} {scope : Scope} {rest : List Stmt} {D : Ends}
theorem gs_lcM {n y : Str} {tp py : Pos} {i : Nat} (j : Nat) (w : Wk X C (.Name n tp) it G G0 r as) (Gs : S → List Ent) (z0 : S) (f : S → α → S × β) (h0 : Le G0 (Gs z0)) (hG : ∀ z, (Gs z).length = (Gs z0).length) (hv : ∀ z, (Gs z)[j]? = (Gs z0)[j]?) (no : NoOwn (Gs z0) [j])
    (he : ∀ (C1 : C0) (i : Nat) (v : α) (z : S), as[i]? = some v → ∀ s0 H0 c0 cl fp, XE (Cx.bl X scope s0 H0 c0 cl fp) C1 elt ((Gs z).set j (.dat r v)) ((Gs (f z v).1).set j (.dat r v)) (.dat s (f z v).2))
    {en' : Ent} (hen : ∀ {te : TE}, Ev C te G (Gs (mapS f z0 as).1) (.own false s (mapS f z0 as).2) → Ev C te G (Gs (mapS f z0 as).1) en') (k : GS X C ((Gs (mapS f z0 as).1).set i en') rest D)
    (hN : X.N.Nodup) (ok : BlkOk X.N X.env.scope scope [(n, j)]) (hg : ∀ (s : Shared) (H : Hp) (c0 : Addr) (cl : List (Str × Addr)) (fp : List Addr), PG (X.blk s H scope (compEnvC scope cl c0 X.env) fp) (.Name n tp) (gName j)) (hy : X.N[i]? = some y) (hyl : X.env.scope.names.lookup y = some .local) (hsw : swapsWith (.ListComp elt [⟨.Name n tp, it, [], 0⟩] scope pos) (some (.Name y py)) spos.line X.env = pure true)
    (hc : X.calm = true := by rfl) : GS X C G (.Assign [.Name y py] (.ListComp elt [⟨.Name n tp, it, [], 0⟩] scope pos) spos :: rest) D := by
  have h := ev_lcS (C := C) (vs := [j]) (tt := tYes) (te := bE X scope elt) (g := gName j) (s := s) w.src Gs z0 h0 (fun _ _ => true) f hG (fun z v hv' => by rw [List.mem_singleton.mp hv']; exact hv z) no fun C1 i v z hi hz => ⟨_, tgc_name, fun B H σ O Q q => q B H O (Same.refl _), fun k hk => List.getElem?_set_ne (fun z => hk (by rw [← z]; exact List.mem_singleton.mpr rfl)), fun _ => ⟨_, bE_of (he C1 i v z hi), fun k hk => List.getElem?_set_ne (fun z => hk (by rw [← z]; exact List.mem_singleton.mpr rfl))⟩⟩
  rw [lcS_map f as z0 []] at h
  exact fun B H σ O => w_ps (ps_setLc (own := [(n, j)]) hc hN hy hyl hsw w.pi ok hg (fun _ _ _ _ _ => pts_nil) pe_b w.fs) (hen h B H σ O _ fun v B' H' O' s hv ha => k B' H' _ (O'.store hv ha))
end
end TL

namespace TL
open PySem PySem.Spec PyProof.Rows L2
def rFr (H0 : Hp) {α : Type} (r : Rp α) : Rp (List α) := ⟨fun B v l => ∃ q vs, v = .ref q ∧ H0 q = none ∧ B q = some (.lst vs) ∧ Paired (r.rel B) vs l, fun s h => by
  obtain ⟨q, vs, e1, e2, e3, e4⟩ := h
  exact ⟨q, vs, e1, e2, s _ _ e3, paired_mono s e4⟩⟩
theorem rFr_L {H0 B : Hp} {α : Type} {r : Rp α} {v : V} {l : List α} (h : (rFr H0 r).rel B v l) : (rL r).rel B v l := by
  obtain ⟨q, vs, e1, _, e3, e4⟩ := h
  exact ⟨q, vs, e1, e3, e4⟩
instance {H0 : Hp} {α : Type} [DecidableEq α] {r : Rp α} [RD r] : RD (rFr H0 r) where
  d := RD.d (rL r)
  dp := fun k h => RD.dp (r := rL r) k (rFr_L h)
  lay := RD.lay (r := rL r)
  dep := RD.dep (rL r)
  dle := RD.dle (r := rL r)
  eqv := RD.eqv (r := rL r)
instance {H0 : Hp} {α : Type} [DecidableEq α] {r : Rp α} [RD r] [RO (rL r)] : RO (rFr H0 r) where
  lt := RO.lt (rL r)
  lt_eq := RO.lt_eq (r := rL r)
  al := RO.al (r := rL r)
section
variable {X : Cx} {C : C0} {G G1 G2 : List Ent} {α : Type} {r : Rp α} {e a : Expr} {l : List α} {te : TE} {H0 : Hp} {p pos : Pos}
class Func (r : Rp α) : Prop where
  f : ∀ {B : Hp} {v : V} {a b : α}, r.rel B v a → r.rel B v b → a = b
instance : Func TL.rI := ⟨fun h k => by cases h; cases k; rfl⟩
end
end TL

namespace TL
open PySem PySem.Spec PyProof.Rows L2
section
variable {X : Cx} {C : C0} {G G' G0 G1 G2 : List Ent} {α β : Type} {r : Rp α} {a b : Expr} {e : Expr} {es : List Expr} {pos p p2 cpos : Pos} {rest : List Stmt} {D : Ends}
end
end TL

namespace TL
open PySem PySem.Spec PyProof.Rows L2
section
variable {X : Cx} {C : C0} {G G' G0 G1 G2 G3 : List Ent} {α β γ S : Type} {r : Rp α} {s : Rp β} {a b c : Expr} {e : Expr} {es : List Expr} {pos p p2 apos cpos pos' : Pos} {x : Str} {en : Ent} {rest : List Stmt} {D : Ends}
end
end TL

namespace TL
open PySem PySem.Spec PyProof.Rows L2
abbrev NX := List (NestedKey × Addr × Value)
def nKey (k : List Int × List Int) : NestedKey := .tup [.tup (k.1.map .num), .tup (k.2.map .num)]
section
variable {P : Program} {w : World} {H : Hp} {h : Heap} {a b : Addr} {xs : NX}
end
section
variable {X : Cx} {pins : List (Addr × Obj)} {σ : L2.St} {H : Hp} {s : Shared} {a b : Addr} {v : V} {u r : Value} {A : Around} {E : Value → Shared → Prop} {xs : NX} {k : List Int × List Int}
end
section
variable {X : Cx} {C : C0} {G G' G0 G1 G2 G3 : List Ent} {a b c : Expr} {e : Expr} {es : List Expr} {pos p p2 apos cpos : Pos} {x : Str} {rest : List Stmt} {D : Ends}
end
end TL

namespace TL
open PySem PySem.Spec PyProof.Rows L2
def whileR {ρ S : Type} : Nat → (S → Bool) → (S → ρ ⊕ S) → S → ρ ⊕ S
  | 0, _, _, s => .inr s
  | n + 1, t, f, s => if t s = true then (match f s with
    | .inl r => .inl r
    | .inr s' => whileR n t f s') else .inr s
theorem whileR_succ {ρ S : Type} (t : S → Bool) (f : S → ρ ⊕ S) : ∀ (n : Nat) (s z : S), whileR n t f s = .inr z → whileR (n + 1) t f s = if t z = true then f z else .inr z
  | 0, s, z, h => by
    cases h
    show (if t s = true then _ else _) = _
    split
    · cases e : f s with
      | inl r => rfl
      | inr s' => rfl
    · rfl
  | n + 1, s, z, h => by
    rw [whileR] at h
    rw [whileR]
    cases q : t s with
    | true =>
      rw [q, if_pos rfl] at h
      rw [if_pos rfl]
      cases e : f s with
      | inl r => rw [e] at h; cases h
      | inr s' =>
        rw [e] at h
        exact whileR_succ t f n s' z h
    | false =>
      rw [q, if_neg Bool.false_ne_true] at h
      rw [if_neg Bool.false_ne_true]
      cases h
      rw [q, if_neg Bool.false_ne_true]
theorem whileR_stop {ρ S : Type} {t : S → Bool} {f : S → ρ ⊕ S} {s z : S} {i : Nat} (h : whileR i t f s = .inr z) (q : t z = false) : ∀ n, i ≤ n → whileR n t f s = .inr z := by
  intro n hn
  obtain ⟨d, rfl⟩ : ∃ d, n = i + d := ⟨n - i, by omega⟩
  clear hn
  induction d with
  | zero => exact h
  | succ d ih =>
    have := whileR_succ t f (i + d) s z ih
    rw [q, if_neg Bool.false_ne_true] at this
    exact this
section
variable {X : Cx} {C : C0} {G : List Ent} {S ρ : Type} {c : Expr} {body rest : List Stmt} {pos : Pos} {D : Ends}
theorem gs_endW {f : S → ρ ⊕ S} {z z' : S} {Gs : S → List Ent} {ct bk : L2.St → Hp → Prop} (h : f z = .inr z') (l : Le G (Gs z')) : GS X C G [] { D with nx := fun σ H => ∃ z', f z = .inr z' ∧ Reach C (Gs z') σ H, ct := ct, bk := bk } :=
  fun B H σ O => ⟨fun pins s I => pss_nil.run pins s σ H _ I ⟨z', h, B, O.le l⟩⟩
end
theorem whileR_ret {ρ S : Type} {t : S → Bool} {f : S → ρ ⊕ S} {r : ρ} : ∀ {i n : Nat} {s z : S}, whileR i t f s = .inr z → i < n → t z = true → f z = .inl r → whileR n t f s = .inl r
  | 0, n + 1, s, z, h, _, q, e => by
    cases h
    rw [whileR, q, if_pos rfl, e]
  | i + 1, n + 1, s, z, h, hn, q, e => by
    rw [whileR] at h ⊢
    cases c : t s with
    | true =>
      rw [c, if_pos rfl] at h
      rw [if_pos rfl]
      cases e2 : f s with
      | inl r' => rw [e2] at h; cases h
      | inr s' =>
        rw [e2] at h
        exact whileR_ret (i := i) (n := n) h (by omega) q e
    | false =>
      rw [c, if_neg Bool.false_ne_true] at h
      cases h
      rw [c] at q
      cases q
  | 0, 0, _, _, _, h, _, _ => absurd h (Nat.lt_irrefl _)
  | _ + 1, 0, _, _, _, h, _, _ => absurd h (Nat.not_lt_zero _)
end TL

namespace TL
open PySem PySem.Spec PyProof.Rows L2
abbrev Pr : Type := List Int × List Int
inductive Jd where
  | bad (n : Int)
  | round (l : List Pr)
  | fine
  deriving DecidableEq
instance : Inhabited Jd := ⟨.fine⟩
instance {α β : Type} : Inhabited (Option α ⊕ β) := ⟨.inl none⟩
abbrev rPr : Rp Pr := TL.rP (rT TL.rI) (rT TL.rI)
abbrev jB : Rp (Str × Int) := TL.rP TL.rS TL.rI
abbrev jR : Rp (Str × List Pr) := TL.rP TL.rS (rL rPr)
abbrev jF : Rp (List Str) := rT TL.rS
def rJ : Rp Jd := ⟨fun B v a => match a with
  | .bad n => jB.rel B v ((PySem.Str.ofString "bad"), n)
  | .round l => jR.rel B v ((PySem.Str.ofString "round"), l)
  | .fine => jF.rel B v [(PySem.Str.ofString "pairing")], fun {_ _ _ a} e h => by
  cases a with
  | bad n => exact jB.mono e h
  | round l => exact jR.mono e h
  | fine => exact jF.mono e h⟩
def jD : Jd → PyData
  | .bad n => .tuple [.str (PySem.Str.ofString "bad"), .int n]
  | .round l => .tuple [.str (PySem.Str.ofString "round"), RD.d (rL rPr) l]
  | .fine => .tuple [.str (PySem.Str.ofString "pairing")]
instance : RD rJ where
  d := jD
  dp := fun {K B H v a} kn h => by
    cases a with
    | bad n =>
      obtain ⟨p, x, y, rfl, h2, h3, h4⟩ := h
      cases (show x = V.str _ from h3)
      exact .tup (SqT.of (kn.x h2 rfl)) (.cons (.str _) (.cons (RD.dp kn h4) .nil))
    | round l =>
      obtain ⟨p, x, y, rfl, h2, h3, h4⟩ := h
      cases (show x = V.str _ from h3)
      exact .tup (SqT.of (kn.x h2 rfl)) (.cons (.str _) (.cons (RD.dp kn h4) .nil))
    | fine =>
      obtain ⟨p, vs, rfl, h2, h3⟩ := h
      cases h3 with
      | cons a t =>
        cases t
        cases (show _ = V.str _ from a)
        exact .tup (SqT.of (kn.x h2 rfl)) (.cons (.str _) .nil)
  lay := fun a => by
    cases a with
    | bad n =>
      show (PyData.tuple [.str (PySem.Str.ofString "bad"), .int n]).canLay0 = true
      simp only [PyData.canLay0, PyData.canLayAll0]
      decide +kernel
    | round l =>
      have := RD.lay (r := rL rPr) l
      show (PyData.tuple [.str (PySem.Str.ofString "round"), RD.d (rL rPr) l]).canLay0 = true
      simp only [PyData.canLay0, PyData.canLayAll0] at this ⊢
      rw [this]
      decide +kernel
    | fine => decide +kernel
  dep := RD.dep (rL rPr) + 1
  dle := fun a => by
    cases a with
    | bad n =>
      show (PyData.tuple [.str (PySem.Str.ofString "bad"), .int n]).depth ≤ _
      simp only [PyData.depth, PyData.depthAll]
      omega
    | round l =>
      have := RD.dle (r := rL rPr) l
      show (PyData.tuple [.str (PySem.Str.ofString "round"), RD.d (rL rPr) l]).depth ≤ _
      simp only [PyData.depth, PyData.depthAll] at this ⊢
      omega
    | fine =>
      show (PyData.tuple [.str (PySem.Str.ofString "pairing")]).depth ≤ _
      simp only [PyData.depth, PyData.depthAll]
      omega
  eqv := fun a b => by
    have n1 : ((PySem.Str.ofString "bad") == (PySem.Str.ofString "round")) = false := by decide +kernel
    have n2 : ((PySem.Str.ofString "round") == (PySem.Str.ofString "bad")) = false := by decide +kernel
    have n3 : ((PySem.Str.ofString "bad") == (PySem.Str.ofString "pairing")) = false := by decide +kernel
    have n4 : ((PySem.Str.ofString "pairing") == (PySem.Str.ofString "bad")) = false := by decide +kernel
    have n5 : ((PySem.Str.ofString "round") == (PySem.Str.ofString "pairing")) = false := by decide +kernel
    have n6 : ((PySem.Str.ofString "pairing") == (PySem.Str.ofString "round")) = false := by decide +kernel
    have m1 : ((PySem.Str.ofString "bad") == (PySem.Str.ofString "bad")) = true := by decide +kernel
    have m2 : ((PySem.Str.ofString "round") == (PySem.Str.ofString "round")) = true := by decide +kernel
    have m3 : ((PySem.Str.ofString "pairing") == (PySem.Str.ofString "pairing")) = true := by decide +kernel
    cases a <;> cases b <;> simp only [jD, PyData.eqv, PyData.eqvAll, n1, n2, n3, n4, n5, n6, m1, m2, m3, Bool.true_and, Bool.false_and, Bool.and_true, RD.eqv, dec_beq] <;> simp
section
variable {X : Cx} {C : C0} {G G' G0 G1 G2 G3 : List Ent} {α β : Type} {r : Rp α} {a b c : Expr} {e : Expr} {es : List Expr} {pos p p2 cpos : Pos} {x : Str} {en : Ent} {rest : List Stmt} {D : Ends} {W : WX}
def rNo : Rp Unit := ⟨fun _ _ _ => False, fun _ h => h⟩
theorem x_callF {ι : Type} {m : ι → Except Er α} {args : ι → List Ent} {res : α → Ent} {ps : List Str} {k : Nat} {as : List Arg} (c : CalleeX X.prog X.w X.K X.mg X.base x ps (FS.ofE X.mg args m res).sp k) (hr : Room k X.A) (tk : Takes X W) (y : ι)
    (ha : XA X C (e :: es) G G1 as) (fit : FitD as (args y)) {ev : Er} (hm : m y = .error ev) (her : ∀ B H σ, Ok C G1 B H σ → W (ev.val X.mg) none σ H) (hg : Gl X x := by rfl)
    (hdbg : (x == ("__debug__" : Str)) = false := by decide) (hst : starEach (e :: es) X.env = (false, eval e X.env) :: starEach es X.env := by rfl) (hpl : (backTo pos (starEach es X.env)).any (·.1) = false := by rfl) :
    XE X C (.Call (.Name x p) (e :: es) [] pos) G G2 en :=
  x_of (pe_callW c hr tk hg hdbg hst hpl) fun B H σ O Q q => er_callS y ha fit (ofE_er hm) her B H σ O Q
end
end TL

namespace TL
open PySem PySem.Spec PyProof.Rows L2
section
variable {X : Cx} {C : C0} {G G' G0 G1 G2 G3 : List Ent} {α β : Type} {r : Rp α} {a b c : Expr} {e : Expr} {es : List Expr} {pos p p2 cpos apos : Pos} {x : Str} {en : Ent} {rest : List Stmt} {D : Ends}
end
end TL

namespace TL
open PySem PySem.Spec PyProof.Rows L2
def rBut {α : Type} (p : Addr) (r : Rp α) : Rp α := ⟨fun B v a => r.rel B v a ∧ r.rel (cutB B p) v a, fun {B B' v a} s h => ⟨r.mono s h.1, r.mono (fun b o e => by
  by_cases z : b = p
  · subst z; rw [cutB_same] at e; cases e
  · rw [cutB_ne z] at e ⊢; exact s b o e) h.2⟩⟩
inductive LB (p : Addr) : List Ent → List Ent → Prop
  | nil : LB p [] []
  | any {e : Ent} {G G' : List Ent} : LB p G G' → LB p (e :: G) (.any :: G')
  | but {α : Type} {r : Rp α} {a : α} {G G' : List Ent} : LB p G G' → LB p (.dat r a :: G) (.dat (rBut p r) a :: G')
  | own {α : Type} {m : Bool} {r : Rp α} {l : List α} {G G' : List Ent} : LB p G G' → LB p (.own m r l :: G) (.own m r l :: G')
  | ownT {α : Type} {m : Bool} {r : Rp α} {l : List (List Int × α)} {G G' : List Ent} : LB p G G' → LB p (.ownT m r l :: G) (.ownT m r l :: G')
  | ownK {α : Type} {m : Bool} {r : Rp α} {l : List (Int × α)} {G G' : List Ent} : LB p G G' → LB p (.ownK m r l :: G) (.ownK m r l :: G')
inductive UB (p : Addr) : List Ent → List Ent → Prop
  | nil : UB p [] []
  | any {e : Ent} {G G' : List Ent} : UB p G G' → UB p (e :: G) (.any :: G')
  | but {α : Type} {r : Rp α} {a : α} {G G' : List Ent} : UB p G G' → UB p (.dat (rBut p r) a :: G) (.dat r a :: G')
  | own {α : Type} {m : Bool} {r : Rp α} {l : List α} {G G' : List Ent} : NL r → UB p G G' → UB p (.own m r l :: G) (.own m r l :: G')
  | ownT {α : Type} {m : Bool} {r : Rp α} {l : List (List Int × α)} {G G' : List Ent} : NL r → UB p G G' → UB p (.ownT m r l :: G) (.ownT m r l :: G')
  | ownK {α : Type} {m : Bool} {r : Rp α} {l : List (Int × α)} {G G' : List Ent} : NL r → UB p G G' → UB p (.ownK m r l :: G) (.ownK m r l :: G')
theorem LB.len {p : Addr} {G G' : List Ent} (h : LB p G G') : G'.length = G.length := by
  induction h <;> simp_all
theorem UB.len {p : Addr} {G G' : List Ent} (h : UB p G G') : G'.length = G.length := by
  induction h <;> simp_all
inductive LE (p : Addr) : Ent → Ent → Prop
  | any {e : Ent} : LE p e .any
  | but {α : Type} {r : Rp α} {a : α} : LE p (.dat r a) (.dat (rBut p r) a)
  | same {e : Ent} (h : e.mine = true) : LE p e e
theorem LB.at {p : Addr} {G G' : List Ent} (h : LB p G G') : ∀ (j : Nat) (e' : Ent), G'[j]? = some e' → ∃ e, G[j]? = some e ∧ LE p e e' := by
  induction h with
  | nil => intro j e' h; cases j <;> cases h
  | any _ ih => intro j e' h; cases j with
    | zero => cases h; exact ⟨_, rfl, .any⟩
    | succ j => exact ih j e' h
  | but _ ih => intro j e' h; cases j with
    | zero => cases h; exact ⟨_, rfl, .but⟩
    | succ j => exact ih j e' h
  | own _ ih => intro j e' h; cases j with
    | zero => cases h; exact ⟨_, rfl, .same rfl⟩
    | succ j => exact ih j e' h
  | ownT _ ih => intro j e' h; cases j with
    | zero => cases h; exact ⟨_, rfl, .same rfl⟩
    | succ j => exact ih j e' h
  | ownK _ ih => intro j e' h; cases j with
    | zero => cases h; exact ⟨_, rfl, .same rfl⟩
    | succ j => exact ih j e' h
inductive UE (p : Addr) : Ent → Ent → Prop
  | any {e : Ent} : UE p e .any
  | but {α : Type} {r : Rp α} {a : α} : UE p (.dat (rBut p r) a) (.dat r a)
  | own {α : Type} {m : Bool} {r : Rp α} {l : List α} : NL r → UE p (.own m r l) (.own m r l)
  | ownT {α : Type} {m : Bool} {r : Rp α} {l : List (List Int × α)} : NL r → UE p (.ownT m r l) (.ownT m r l)
  | ownK {α : Type} {m : Bool} {r : Rp α} {l : List (Int × α)} : NL r → UE p (.ownK m r l) (.ownK m r l)
theorem UB.at {p : Addr} {G G' : List Ent} (h : UB p G G') : ∀ (j : Nat) (e' : Ent), G'[j]? = some e' → ∃ e, G[j]? = some e ∧ UE p e e' := by
  induction h with
  | nil => intro j e' h; cases j <;> cases h
  | any _ ih => intro j e' h; cases j with
    | zero => cases h; exact ⟨_, rfl, .any⟩
    | succ j => exact ih j e' h
  | but _ ih => intro j e' h; cases j with
    | zero => cases h; exact ⟨_, rfl, .but⟩
    | succ j => exact ih j e' h
  | own n _ ih => intro j e' h; cases j with
    | zero => cases h; exact ⟨_, rfl, .own n⟩
    | succ j => exact ih j e' h
  | ownT n _ ih => intro j e' h; cases j with
    | zero => cases h; exact ⟨_, rfl, .ownT n⟩
    | succ j => exact ih j e' h
  | ownK n _ ih => intro j e' h; cases j with
    | zero => cases h; exact ⟨_, rfl, .ownK n⟩
    | succ j => exact ih j e' h
structure Cut (C : C0) (p : Addr) : Prop where
  b0 : C.B0 p = none
  b1 : C.B1 p = none
  h0 : C.H0 p = none
  lk : p ∉ C.lk
section
variable {X : Cx} {C : C0} {G G' G1 G2 Gd : List Ent} {α : Type} {r : Rp α} {l : List α} {sts rest : List Stmt} {D : Ends} {e : Expr} {a : α}
end
end TL

namespace TL
open PySem PySem.Spec PyProof.Rows L2
section
variable {C : C0} {G G' G0 G1 G2 : List Ent} {α β γ S : Type} {r : Rp α} {s : Rp β} {as : List α} {wi : TI} {g : TG} {tt : TT} {te : TE} {vs : List Nat} {K : PySem.W.Frag}
end
section
variable {X : Cx} {C : C0} {G G' G0 G1 : List Ent} {α β S : Type} {r : Rp α} {s : Rp β} {it elt c : Expr} {pos spos : Pos} {as : List α} {scope : Scope} {rest : List Stmt} {D : Ends}
end
end TL

namespace TL
open PySem PySem.Spec PyProof.Rows L2
section
variable {X : Cx} {C : C0} {G G1 G2 : List Ent} {a b : Expr} {pos : Pos}
theorem x_mulX {i j : Int} (ha : XE X C a G G1 (.dat TL.rI i)) (hb : XE X C b G1 G2 (.dat TL.rI j)) (hc : CMulX i j) : XE X C (.BinOp a .Mult b pos) G G2 (.dat TL.rI (i * j)) := x_of (pe_op op_mulX (pe_w a) (pe_w b)) (ev_I ha hb hc fun _ => rfl)
end
end TL

namespace TL
open PySem PySem.Spec PyProof.Rows L2
section
variable {X : Cx} {C : C0} {G G' G0 G1 G2 : List Ent} {α β : Type} {r : Rp α} {s : Rp β} {ea eb : Expr} {pos : Pos}
end
end TL

namespace TL
open PySem PySem.Spec PyProof.Rows L2
def rU : Rp Unit := ⟨fun _ _ _ => True, fun _ h => h⟩
instance : Tupy rU := ⟨fun _ h => h⟩
section
variable {X : Cx} {C : C0} {G G' G0 G1 G2 Gp : List Ent} {α β γ : Type} {r : Rp α} {s : Rp β} {t : Rp γ} {e ex b : Expr} {rest body : List Stmt} {D : Ends} {x y : Str} {i : Nat} {p p2 pos apos cpos spos : Pos}
end
end TL

namespace TL
open PySem PySem.Spec PyProof.Rows L2
section
variable {X : Cx} {C : C0} {G G' G0 G1 G2 : List Ent} {α β : Type} {r : Rp α} {s : Rp β} {a : Expr} {p pos : Pos}
end
end TL

namespace TL
open PySem PySem.Spec PyProof.Rows L2
def PD {α β : Type} (r : Rp α) (s : Rp β) (B : Hp) (td : Addr × Addr) (row : α × List (List Int × β)) : Prop :=
  ∃ v kvs, B td.1 = some (.tup [v, .ref td.2]) ∧ r.rel B v row.1 ∧ B td.2 = some (.dT kvs) ∧ DTr s B kvs row.2
theorem PD.mono {α β : Type} {r : Rp α} {s : Rp β} {B B' : Hp} (e : Same B B') {td : Addr × Addr} {row : α × List (List Int × β)} (h : PD r s B td row) : PD r s B' td row := by
  obtain ⟨v, kvs, h1, h2, h3, h4⟩ := h
  exact ⟨v, kvs, e _ _ h1, r.mono e h2, e _ _ h3, DTr.mono e h4⟩
section
variable {X : Cx} {C : C0} {G G' G0 G1 G2 Gp : List Ent} {α β γ : Type} {r : Rp α} {s : Rp β} {u : Rp γ} {as : List γ} {wi : TI} {g : TG} {tt : TT} {te : TE} {vs : List Nat} {ea eb it elt : Expr} {pos : Pos} {scope : Scope}
end
end TL

namespace TL
open PySem PySem.Spec PyProof.Rows L2
section
variable {α β : Type} {r : Rp α} {s : Rp β}
end
section
variable {X : Cx} {C : C0} {G G' G0 G1 G2 : List Ent} {α β : Type} {r : Rp α} {s : Rp β} {rest : List Stmt} {D : Ends} {x y : Str} {i n : Nat} {p p1 p2 p3 p4 p5 pos sp1 sp2 apos : Pos}
end
section
variable {ι : Type} {P : Program} {w : World} {K : PySem.W.Frag} {mg : Str → Option Value} {base : Heap}
end
end TL

namespace TL
open PySem PySem.Spec PyProof.Rows L2
class RA {α : Type} (r : Rp α) where
  al : α → α → Prop
  dep : Nat
  ev : ∀ {X : Cx} {pins : List (Addr × Obj)} {σ : L2.St} {H B : Hp} {s : Shared} {A : Around} {x y : V} {a b : α}, al a b → Inv X pins σ H s → Kn B H → A.units + dep < cLine → r.rel B x a → r.rel B y b → EqS X A s x y
instance (priority := low) ra_rs {α : Type} {r : Rp α} [RS r] : RA r where
  al := fun a b => a = b
  dep := RS.dep r
  ev := fun e I kn hu ha hb => by subst e; exact RS.ev I kn hu ha hb
instance ra_dt {α : Type} {r : Rp α} [RQ r] : RA (rDT r) where
  al := fun d e => deq (RQ.q r) d e = true
  dep := RQ.dep (rDT r)
  ev := fun {X pins σ H B s A x y a b} e I kn hu ha hb v u rx ry => by
    have h := RQ.ev (r := rDT r) I kn hu ha hb rx ry
    have e2 : RQ.q (rDT r) a b = true := e
    rw [e2] at h
    exact h
instance ra_p {α β : Type} {r : Rp α} {s : Rp β} [RA r] [RA s] : RA (TL.rP r s) where
  al := fun a b => RA.al r a.1 b.1 ∧ RA.al s a.2 b.2
  dep := max (RA.dep r) (RA.dep s) + 1
  ev := fun {X pins σ H B sh A x y a b} e I kn hu ha hb v u rx ry => by
    have m1 := Nat.le_max_left (RA.dep r) (RA.dep s)
    have m2 := Nat.le_max_right (RA.dep r) (RA.dep s)
    obtain ⟨p, x1, x2, rfl, e2, e3, e4⟩ := ha
    obtain ⟨p', y1, y2, rfl, f2, f3, f4⟩ := hb
    cases (show v = Value.ref p from rx)
    cases (show u = Value.ref p' from ry)
    by_cases c : p = p'
    · subst c; exact (SeqAt.EqAt.same _).eqP
    · obtain ⟨us, r1, l1, _⟩ := I.tuple (SqT.of (kn.x e2 rfl))
      obtain ⟨zs, r2, l2, _⟩ := I.tuple (SqT.of (kn.x f2 rfl))
      have hp : Paired (EqS X A.in1 sh) [x1, x2] [y1, y2] := .cons (RA.ev e.1 I kn (by show A.units + 1 + _ < cLine; omega) e3 f3) (.cons (RA.ev e.2 I kn (by show A.units + 1 + _ < cLine; omega) e4 f4) .nil)
      obtain ⟨hl, he⟩ := same_lists hp r1 r2
      refine SeqAt.eqP_refs c fun E Q q => SeqAt.rcIn_tuples (e := fun _ => true) l1 l2 (by omega) he ?_
      rw [all_true, List.size_toArray, List.size_toArray, hl, beq_self_eq_true]
      exact q
section
variable {X : Cx} {C : C0} {G G1 G2 : List Ent} {α : Type} {r : Rp α} {a b : Expr} {pos : Pos}
end
end TL

namespace TL
open PySem PySem.Spec PyProof.Rows L2
section
variable {X : Cx} {C : C0} {G G' G0 G1 G2 Gp : List Ent} {α β γ : Type} {r : Rp α} {s : Rp β} {u : Rp γ} {as : List α} {e ex b it elt : Expr} {rest body : List Stmt} {D : Ends} {te : TE} {x y : Str} {i : Nat} {p pos apos cpos spos : Pos} {scope : Scope}
end
end TL

namespace TL
open PySem PySem.Spec PyProof.Rows L2
section
variable {X : Cx} {C : C0} {G G' G0 G1 : List Ent} {α β S : Type} {r : Rp α} {s : Rp β} {it elt : Expr} {pos spos : Pos} {as : List α} {scope : Scope} {rest : List Stmt} {D : Ends}
end
end TL

namespace TL
open PySem PySem.Spec PyProof.Rows L2
abbrev Ch5 : Type := List (List Int × Int)
abbrev R5 : Type := Int × Int × Option Int × Ch5 × Option Ch5
def rFrT (H0 : Hp) {α : Type} (r : Rp α) : Rp (List (List Int × α)) := ⟨fun B v d => ∃ q kvs, v = .ref q ∧ H0 q = none ∧ B q = some (.dT kvs) ∧ DTr r B kvs d, fun s h => by
  obtain ⟨q, kvs, e1, e2, e3, e4⟩ := h
  exact ⟨q, kvs, e1, e2, s _ _ e3, e4.mono s⟩⟩
instance {H0 : Hp} {α : Type} {r : Rp α} : NN (rFrT H0 r) := ⟨fun h e => by obtain ⟨q, kvs, rfl, _⟩ := h; cases e⟩
def rOffT (L : List Addr) {α : Type} (r : Rp α) : Rp (List (List Int × α)) := ⟨fun B v d => ∃ q kvs, v = .ref q ∧ q ∉ L ∧ B q = some (.dT kvs) ∧ DTr r B kvs d, fun s h => by
  obtain ⟨q, kvs, e1, e2, e3, e4⟩ := h
  exact ⟨q, kvs, e1, e2, s _ _ e3, e4.mono s⟩⟩
instance {L : List Addr} {α : Type} {r : Rp α} : NN (rOffT L r) := ⟨fun h e => by obtain ⟨q, kvs, rfl, _⟩ := h; cases e⟩
theorem dtr_I {B B' : Hp} {kvs : List (List Key × V)} {d : Ch5} (h : DTr TL.rI B kvs d) : DTr TL.rI B' kvs d := Paired.mono (fun _ _ h => h) h
structure Td where
  t : Addr
  h : Int
  b : Int
  d : Option Int
  q : Addr
  f : Option Addr
def oI : Option Int → V
  | none => .non
  | some i => .int i
def oR : Option Addr → V
  | none => .non
  | some f => .ref f
def Td.adr (x : Td) : List Addr := x.q :: x.f.toList
def Td.row (c : Addr → Ch5) (x : Td) : R5 := (x.h, x.b, x.d, c x.q, x.f.map c)
def Td.ok (B : Hp) (x : Td) : Prop := B x.t = some (.tup [.int x.h, .int x.b, oI x.d, .ref x.q, oR x.f])
def DAt (B : Hp) (c : Addr → Ch5) (q : Addr) : Prop := ∃ kvs, B q = some (.dT kvs) ∧ DTr TL.rI B kvs (c q)
abbrev adrs (tds : List Td) : List Addr := tds.flatMap Td.adr
structure B5 (B : Hp) (p : Addr) (tds : List Td) (c : Addr → Ch5) : Prop where
  l : B p = some (.lst (tds.map fun x => V.ref x.t))
  t : ∀ x ∈ tds, x.ok B
  d : ∀ q ∈ adrs tds, DAt B c q
theorem DAt.mono {B B' : Hp} {c : Addr → Ch5} {q : Addr} (s : Same B B') (h : DAt B c q) : DAt B' c q := by
  obtain ⟨kvs, h1, h2⟩ := h
  exact ⟨kvs, s _ _ h1, dtr_I h2⟩
theorem B5.mono {B B' : Hp} {p : Addr} {tds : List Td} {c : Addr → Ch5} (s : Same B B') (h : B5 B p tds c) : B5 B' p tds c :=
  ⟨s _ _ h.l, fun x hx => s _ _ (h.t x hx), fun q hq => (h.d q hq).mono s⟩
noncomputable def cAt (B : Hp) (q : Addr) : Ch5 := by
  classical
  exact if h : ∃ d, ∃ kvs, B q = some (.dT kvs) ∧ DTr TL.rI B kvs d then h.choose else []
section
variable {X : Cx} {C : C0} {G G' G0 G1 G2 Gp : List Ent} {α β γ : Type} {r : Rp α} {te : TE} {e : Expr} {H0 : Hp}
end
def OffE (L : List Addr) (B B' : Hp) : Prop := ∀ b o, B b = some o → (b ∉ L ∨ isTup o = true) → B' b = some o
def FirmO (L : List Addr) {α : Type} (r : Rp α) : Prop := ∀ B B' v a, OffE L B B' → r.rel B v a → r.rel B' v a
inductive FirmL (L : List Addr) : List Ent → Prop
  | nil : FirmL L []
  | any {G : List Ent} : FirmL L G → FirmL L (.any :: G)
  | dat {α : Type} {r : Rp α} {a : α} {G : List Ent} (h : FirmO L r) : FirmL L G → FirmL L (.dat r a :: G)
  | own {α : Type} {m : Bool} {r : Rp α} {l : List α} {G : List Ent} (h : FirmO L r) : FirmL L G → FirmL L (.own m r l :: G)
theorem FirmL.at {C : C0} {B B' H H' : Hp} {L : List Addr} {G : List Ent} (f : FirmL L G) (s : OffE L B B') (k : ∀ p o, H p = some o → B p = none → H' p = some o ∧ B' p = none) : ∀ {i : Nat} {e : Ent} {ov : Option V}, G[i]? = some e → EntOk C B H e ov → EntOk C B' H' e ov := by
  induction f with
  | nil => intro i e ov h; cases h
  | any f ih =>
    intro i e ov hi h
    cases i with
    | zero => cases hi; trivial
    | succ i => exact ih hi h
  | dat hr f ih =>
    intro i e ov hi h
    cases i with
    | zero => cases hi; obtain ⟨v, e1, e2⟩ := h; exact ⟨v, e1, hr _ _ _ _ s e2⟩
    | succ i => exact ih hi h
  | own hr f ih =>
    intro i e ov hi h
    cases i with
    | zero =>
      cases hi
      obtain ⟨p, vs, e1, e2, ⟨e3, e4, e5⟩, e6⟩ := h
      obtain ⟨k1, k2⟩ := k p _ e2 e3
      exact ⟨p, vs, e1, k1, ⟨k2, e4, e5⟩, e6.mono fun _ _ h => hr _ _ _ _ s h⟩
    | succ i => exact ih hi h
end TL

namespace TL
open PySem PySem.Spec PyProof.Rows L2
section
variable {P : Program} {w : World} {K : PySem.W.Frag} {mg : Str → Option Value} {base : Heap}
end
section
variable {X : Cx} {C : C0} {G G' G0 G1 G2 : List Ent} {α β : Type} {r : Rp α} {s : Rp β} {rest body : List Stmt} {D : Ends} {x y : Str} {a e : Expr} {i n : Nat} {p p1 p2 p3 p4 p5 pos sp1 sp2 apos cpos upos ipos : Pos} {te : TE}
end
end TL

namespace TL
open PySem PySem.Spec PyProof.Rows L2
abbrev NK (P : Program) (w : World) (h : Heap) (k : NestedKey) (b : Addr) : Prop := (nestedKind P w).is h k b
abbrev nhs (w : World) (k : NestedKey) : Int := NestedKey.hash w k
section
variable {P : Program} {w : World} {A : Around} {E : Value → Shared → Prop} {s : Shared}
abbrev NP : Type := Addr × (List Int × List Int)
abbrev nhp (w : World) (p : NP) : Int := nhs w (nKey p.2)
def nRow (w : World) (p : NP) : Int × Value := (nhp w p, .ref p.1)
structure NS (P : Program) (w : World) (h : Heap) (a : Addr) (T : List NP) (cells : Array (Int × Value)) (ver : Nat) (tb : SetTable) : Prop where
  obj : ∃ o, h.get? a = some o ∧ o.ExactSet ∧ o.data = .set cells ver tb
  rws : cells.toList = T.map (nRow w)
  tab : TabOk tb (T.map (nhp w))
  nd : (T.map (·.2)).Nodup
  key : ∀ p ∈ T, NK P w h (nKey p.2) p.1
  flat : tb.plain = true
  view : w.params.followText "set-order" = true ∨ tb.led = true
  slack : T.length * 5 < tb.mask * 3
  low : T.length < 64
variable {a : Addr} {T : List NP} {cells : Array (Int × Value)} {ver : Nat} {tb : SetTable}
theorem NS.size (R : NS P w s.heap a T cells ver tb) : cells.size = T.length := by
  have := congrArg List.length R.rws
  rwa [Array.length_toList, List.length_map] at this
theorem NS.place (R : NS P w s.heap a T cells ver tb) : tb.place.size = T.length := by
  have := R.tab.sz
  rwa [List.length_map] at this
theorem NS.fits (R : NS P w s.heap a T cells ver tb) : tb.fits cells.size = true := by
  have h1 := R.place
  have h2 := R.size
  have h3 := R.slack
  unfold SetTable.fits SetTable.fill
  rw [R.tab.dm, Bool.and_eq_true, beq_iff_eq, decide_eq_true_eq]
  exact ⟨by omega, by show tb.place.size + 0 ≤ tb.mask; omega⟩
theorem NS.cell (R : NS P w s.heap a T cells ver tb) {i : Nat} {p : NP} (h : T[i]? = some p) : cells[i]? = some (nRow w p) := by
  rw [← Array.getElem?_toList, R.rws, List.getElem?_map, h]; rfl
end
end TL

namespace TL
open PySem PySem.Spec PyProof.Rows L2
section
variable {P : Program} {w : World} {A : Around} {E : Value → Shared → Prop} {s : Shared} {a : Addr} {T : List NP} {cells : Array (Int × Value)} {ver : Nat} {tb : SetTable}
theorem NS.keep {h h' : Heap} (R : NS P w h a T cells ver tb) (ha : ∀ o, h.get? a = some o → h'.get? a = some o) (hk : ∀ p ∈ T, NK P w h' (nKey p.2) p.1) : NS P w h' a T cells ver tb := by
  obtain ⟨o, ho, r⟩ := R.obj
  exact ⟨⟨o, ha o ho, r⟩, R.rws, R.tab, R.nd, hk, R.flat, R.view, R.slack, R.low⟩
end
end TL

namespace TL
open PySem PySem.Spec PyProof.Rows L2
section
variable {P : Program} {w : World} {A : Around} {E : Value → Shared → Prop} {s : Shared}
end
structure NS0 (P : Program) (w : World) (h : Heap) (a : Addr) (T : List NP) : Prop where
  ex : ∃ (cells : Array (Int × Value)) (ver : Nat) (tb : SetTable), (∃ o, h.get? a = some o ∧ o.ExactSet ∧ o.data = .set cells ver tb) ∧ cells.size = T.length ∧ tb.fits cells.size = true ∧ T.length < 64
section
variable {X : Cx} {C : C0} {G G1 : List Ent} {a : Expr} {pos p p2 cpos : Pos}
end
end TL

namespace TL
open PySem PySem.Spec PyProof.Rows L2
section
variable {X : Cx} {C : C0} {G G' G0 G1 G2 : List Ent} {α β : Type} {r : Rp α} {s : Rp β} {e ex a b : Expr} {rest : List Stmt} {D : Ends} {te : TE} {x : Str} {i : Nat} {p p2 pos pos' apos cpos spos : Pos}
instance {H0 : Hp} : NN (rFr H0 r) := ⟨fun h e => by obtain ⟨q, ws, rfl, _⟩ := h; cases e⟩
end
end TL

namespace TL
open PySem PySem.Spec PyProof.Rows L2
inductive Fd where
  | T | L | Lb | R | Rb
  deriving DecidableEq
def Fd.nm : Fd → Str
  | .T => "table"
  | .L => "left"
  | .Lb => "left_back"
  | .R => "right"
  | .Rb => "right_back"
abbrev Tbl : Type := List (List Int)
structure SS where
  n : Int
  m : Int
  tb : Fd → Tbl
def SS.put (s : SS) (f : Fd) (t : Tbl) : SS := { s with tb := fun g => if g = f then t else s.tb g }
theorem SS.put_same {s : SS} {f : Fd} {t : Tbl} : (s.put f t).tb f = t := if_pos rfl
theorem SS.put_ne {s : SS} {f g : Fd} {t : Tbl} (h : g ≠ f) : (s.put f t).tb g = s.tb g := if_neg h
theorem SS.put_put {s : SS} {f : Fd} {t u : Tbl} : (s.put f t).put f u = s.put f u := by
  unfold SS.put
  congr 1
  funext g
  by_cases h : g = f
  · rw [if_pos h, if_pos h]
  · rw [if_neg h, if_neg h]; exact if_neg h
theorem SS.put_self {s : SS} {f : Fd} : s.put f (s.tb f) = s := by
  unfold SS.put
  cases s with
  | mk n m tb =>
    congr 1
    funext g
    by_cases h : g = f
    · rw [if_pos h, h]
    · rw [if_neg h]
structure AD where
  p : Addr
  dx : Addr
  at_ : Fd → Addr
  rows : Fd → List Addr
def AD.cell (a : AD) (q : Addr) : Prop := (∃ f, q = a.at_ f) ∨ ∃ f, q ∈ a.rows f
def AD.setR (a : AD) (f : Fd) (l : List Addr) : AD := { a with rows := fun g => if g = f then l else a.rows g }
theorem AD.setR_same {a : AD} {f : Fd} {l : List Addr} : (a.setR f l).rows f = l := if_pos rfl
theorem AD.setR_ne {a : AD} {f g : Fd} {l : List Addr} (h : g ≠ f) : (a.setR f l).rows g = a.rows g := if_neg h
def AD.flds (a : AD) (n m : Int) : List (Str × V) := [("table", .ref (a.at_ .T)), ("rows", .int n), ("columns", .int m), ("left", .ref (a.at_ .L)), ("left_back", .ref (a.at_ .Lb)), ("right", .ref (a.at_ .R)), ("right_back", .ref (a.at_ .Rb))]
structure TabAt (B : Hp) (x : Addr) (qs : List Addr) (t : Tbl) : Prop where
  l : B x = some (.lst (qs.map V.ref))
  n : qs.length = t.length
  r : ∀ (i : Nat) (q : Addr) (r : List Int), qs[i]? = some q → t[i]? = some r → B q = some (.lst (r.map V.int))
structure AD.Apart (a : AD) : Prop where
  i1 : ∀ f g, a.at_ f = a.at_ g → f = g
  i2 : ∀ f g, a.at_ f ∉ a.rows g
  i3 : ∀ (f g : Fd) (i j : Nat) (q : Addr), (a.rows f)[i]? = some q → (a.rows g)[j]? = some q → f = g ∧ i = j
structure StAt (mg : Str → Option Value) (P : Addr → Prop) (a : AD) (s : SS) (B : Hp) (v : V) : Prop where
  pv : v = .ref a.p
  ob : ∃ CA, mg "Stepper" = some (.ref CA) ∧ B a.p = some (.ins CA a.dx (a.flds s.n s.m))
  ap : a.Apart
  fr : ∀ q, a.cell q → P q
  tb : ∀ f, TabAt B (a.at_ f) (a.rows f) (s.tb f)
theorem TabAt.mono {B B' : Hp} {x : Addr} {qs : List Addr} {t : Tbl} (s : Same B B') (h : TabAt B x qs t) : TabAt B' x qs t := ⟨s _ _ h.l, h.n, fun i q r h1 h2 => s _ _ (h.r i q r h1 h2)⟩
theorem StAt.mono {mg : Str → Option Value} {P : Addr → Prop} {a : AD} {s : SS} {B B' : Hp} {v : V} (e : Same B B') (h : StAt mg P a s B v) : StAt mg P a s B' v := by
  obtain ⟨CA, h1, h2⟩ := h.ob
  exact ⟨h.pv, ⟨CA, h1, e _ _ h2⟩, h.ap, h.fr, fun f => (h.tb f).mono e⟩
def rSt (mg : Str → Option Value) (P : Addr → Prop) (a : AD) : Rp SS := ⟨fun B v s => StAt mg P a s B v, StAt.mono⟩
def rSx (mg : Str → Option Value) (P : Addr → Prop) (v0 : V) : Rp SS := ⟨fun B v s => v = v0 ∧ ∃ a, StAt mg P a s B v, fun e h => ⟨h.1, h.2.imp fun _ h => h.mono e⟩⟩
def rSr (mg : Str → Option Value) : Rp SS := ⟨fun B v s => ∃ a, StAt mg (fun _ => True) a s B v, fun e h => h.imp fun _ h => h.mono e⟩
def rA : Rp Addr := ⟨fun _ v x => v = .ref x, fun _ h => h⟩
instance : Tupy rA := ⟨fun _ h => h⟩
structure StCls (K : PySem.W.Frag) (mg : Str → Option Value) : Prop where
  ex : ∃ CA, mg "Stepper" = some (.ref CA) ∧ Cls K CA ∧ (∀ f : Fd, NoAttr K CA f.nm) ∧ NoAttr K CA "rows" ∧ NoAttr K CA "columns"
theorem flds_nm {a : AD} {n m : Int} (f : Fd) : (a.flds n m).lookup f.nm = some (.ref (a.at_ f)) := by
  unfold AD.flds
  cases f <;> rfl
section
variable {X : Cx} {C : C0} {G G' G0 G1 G2 : List Ent} {α β : Type} {r : Rp α} {e ex b : Expr} {rest : List Stmt} {D : Ends} {te : TE} {x : Str} {i : Nat} {p pos pos' apos cpos spos : Pos} {P : Addr → Prop} {a : AD} {s : SS}
theorem StCls.at {K : PySem.W.Frag} {mg : Str → Option Value} {B : Hp} {v : V} (c : StCls K mg) (h : StAt mg P a s B v) : ∃ CA, Cls K CA ∧ (∀ f : Fd, NoAttr K CA f.nm) ∧ NoAttr K CA "rows" ∧ NoAttr K CA "columns" ∧ B a.p = some (.ins CA a.dx (a.flds s.n s.m)) ∧ mg "Stepper" = some (.ref CA) := by
  obtain ⟨CA, h1, h2, h3, h4, h5⟩ := c.ex
  obtain ⟨CB, k1, k2⟩ := h.ob
  rw [h1] at k1
  cases k1
  exact ⟨CA, h2, h3, h4, h5, k2, h1⟩
theorem x_stFld (f : Fd) (c : StCls X.K X.mg) (h : XE X C e G G1 (.dat (rSt X.mg P a) s)) (hb : attributeBase e f.nm X.env (eval e X.env) = eval e X.env := by rfl) : XE X C (.Attribute e f.nm pos) G G1 (.dat rA (a.at_ f)) :=
  x_of (pe_fld (pe_w e) hb) (Ev.mk fun B H σ O Q q => h.go O fun v B1 H1 O1 s1 hv => by
    obtain ⟨CA, c1, c2, c3, c4, c5, _⟩ := c.at hv
    exact ⟨a.p, CA, a.dx, _, _, hv.pv, O1.g.kn.x c5 rfl, c1, c2 f, flds_nm f, q _ _ _ O1 s1 rfl⟩)
theorem tab_rel {B : Hp} {x : Addr} {qs : List Addr} {t : Tbl} (h : TabAt B x qs t) : (rL (rL TL.rI)).rel B (.ref x) t := by
  refine ⟨x, _, rfl, h.l, ?_⟩
  have : ∀ {qs : List Addr} {t : Tbl}, qs.length = t.length → (∀ (i : Nat) (q : Addr) (r : List Int), qs[i]? = some q → t[i]? = some r → B q = some (.lst (r.map V.int))) → Paired ((rL TL.rI).rel B) (qs.map V.ref) t := by
    intro qs
    induction qs with
    | nil =>
      intro t hn _
      cases t with
      | nil => exact .nil
      | cons _ _ => cases hn
    | cons q qs ih =>
      intro t hn h
      cases t with
      | nil => cases hn
      | cons r t =>
        refine .cons ⟨q, _, rfl, h 0 q r rfl rfl, ?_⟩ (ih (Nat.succ.inj hn) fun i q' r' h1 h2 => h (i + 1) q' r' h1 h2)
        have : ∀ l : List Int, Paired (TL.rI.rel B) (l.map V.int) l := by
          intro l
          induction l with
          | nil => exact .nil
          | cons z l ih => exact .cons rfl ih
        exact this r
  exact this h.n h.r
theorem x_stTab {f : Fd} (i : Nat) (h0 : G1[i]? = some (.dat (rSt X.mg P a) s)) (h : XE X C e G G1 (.dat rA (a.at_ f))) : XE X C e G G1 (.dat (rL (rL TL.rI)) (s.tb f)) := Ev.mk fun B H σ O Q q => h.go O fun v B1 H1 O1 s1 hv => by
  obtain ⟨ov, hs, v0, rfl, hst⟩ := O1.slot h0
  have hv : v = .ref (a.at_ f) := hv
  subst hv
  exact q _ _ _ O1 s1 (tab_rel (hst.tb f))
theorem x_stRefs {f : Fd} (i : Nat) (h0 : G1[i]? = some (.dat (rSt X.mg P a) s)) (h : XE X C e G G1 (.dat rA (a.at_ f))) : XE X C e G G1 (.dat (rL rA) (a.rows f)) := Ev.mk fun B H σ O Q q => h.go O fun v B1 H1 O1 s1 hv => by
  obtain ⟨ov, hs, v0, rfl, hst⟩ := O1.slot h0
  have hv : v = .ref (a.at_ f) := hv
  subst hv
  refine q _ _ _ O1 s1 ⟨_, _, rfl, (hst.tb f).l, ?_⟩
  have : ∀ l : List Addr, Paired (rA.rel B1) (l.map V.ref) l := by
    intro l
    induction l with
    | nil => exact .nil
    | cons z l ih => exact .cons rfl ih
  exact this _
theorem x_stRow {f : Fd} {ii : Nat} {q : Addr} {row : List Int} (i : Nat) (h0 : G1[i]? = some (.dat (rSt X.mg P a) s)) (hq : (a.rows f)[ii]? = some q) (hr : (s.tb f)[ii]? = some row) (h : XE X C e G G1 (.dat rA q)) : XE X C e G G1 (.dat (rL TL.rI) row) := Ev.mk fun B H σ O Q k => h.go O fun v B1 H1 O1 s1 hv => by
  obtain ⟨ov, hs, v0, rfl, hst⟩ := O1.slot h0
  have hv : v = .ref q := hv
  subst hv
  refine k _ _ _ O1 s1 ⟨q, _, rfl, (hst.tb f).r ii q row hq hr, ?_⟩
  have : ∀ l : List Int, Paired (TL.rI.rel B1) (l.map V.int) l := by
    intro l
    induction l with
    | nil => exact .nil
    | cons z l ih => exact .cons rfl ih
  exact this row
theorem TabAt.off {B : Hp} {x q : Addr} {o : HO} {qs : List Addr} {t : Tbl} (h : TabAt B x qs t) (n1 : x ≠ q) (n2 : q ∉ qs) : TabAt (upd B q o) x qs t :=
  ⟨by rw [upd_ne n1]; exact h.l, h.n, fun i q' r h1 h2 => by
    rw [upd_ne (fun z => n2 (by rw [← z]; exact List.mem_of_getElem? h1))]; exact h.r i q' r h1 h2⟩
theorem StAt.row {mg : Str → Option Value} {B : Hp} {v : V} {f : Fd} {ii : Nat} {q : Addr} {row row' : List Int} (h : StAt mg P a s B v) (hq : (a.rows f)[ii]? = some q) (hr : (s.tb f)[ii]? = some row) : StAt mg P a (s.put f ((s.tb f).set ii row')) (upd B q (.lst (row'.map V.int))) v := by
  have hqm : q ∈ a.rows f := List.mem_of_getElem? hq
  have hB := (h.tb f).r ii q row hq hr
  refine ⟨h.pv, ?_, h.ap, h.fr, fun g => ?_⟩
  · obtain ⟨CA, h1, h2⟩ := h.ob
    exact ⟨CA, h1, by rw [upd_ne (fun z => by rw [z, hB] at h2; cases h2)]; exact h2⟩
  · have n1 : ∀ g, a.at_ g ≠ q := fun g z => h.ap.i2 g f (by rw [z]; exact hqm)
    by_cases c : g = f
    · subst c
      rw [SS.put_same]
      refine ⟨by rw [upd_ne (n1 g)]; exact (h.tb g).l, by rw [List.length_set]; exact (h.tb g).n, fun j q' r' h1 h2 => ?_⟩
      by_cases z : j = ii
      · subst z
        rw [hq] at h1; cases h1
        rw [List.getElem?_set_self (by rw [← (h.tb g).n]; exact lt_get hq)] at h2
        cases h2
        exact upd_same
      · rw [List.getElem?_set_ne (Ne.symm z)] at h2
        rw [upd_ne (fun y => z (h.ap.i3 g g j ii q' h1 (by rw [y]; exact hq)).2)]
        exact (h.tb g).r j q' r' h1 h2
    · rw [SS.put_ne c]
      refine (h.tb g).off (n1 g) fun z => ?_
      obtain ⟨j, hj⟩ := List.mem_iff_getElem?.mp z
      exact c (h.ap.i3 g f j ii q hj hq).1
theorem StAt.setRow {mg : Str → Option Value} {B : Hp} {v : V} {f : Fd} {ii : Nat} {x : Addr} {row' : List Int} (h : StAt mg P a s B v) (hii : ii < (s.tb f).length) (hx : B x = some (.lst (row'.map V.int))) (px : P x) (nx : ¬ a.cell x) :
    StAt mg P (a.setR f ((a.rows f).set ii x)) (s.put f ((s.tb f).set ii row')) (upd B (a.at_ f) (.lst (((a.rows f).map V.ref).set ii (.ref x)))) v := by
  have n1 : ∀ g, x ≠ a.at_ g := fun g z => nx (.inl ⟨g, z⟩)
  have n2 : ∀ g, x ∉ a.rows g := fun g z => nx (.inr ⟨g, z⟩)
  have hB := (h.tb f).l
  have hlen : ii < (a.rows f).length := by rw [(h.tb f).n]; exact hii
  have mem : ∀ (g : Fd) (j : Nat) (q : Addr), ((a.setR f ((a.rows f).set ii x)).rows g)[j]? = some q → (g = f ∧ j = ii ∧ q = x) ∨ ((g ≠ f ∨ j ≠ ii) ∧ (a.rows g)[j]? = some q) := fun g j q hj => by
    by_cases c : g = f
    · subst c
      rw [AD.setR_same] at hj
      by_cases z : j = ii
      · subst z
        rw [List.getElem?_set_self hlen] at hj
        cases hj
        exact .inl ⟨rfl, rfl, rfl⟩
      · rw [List.getElem?_set_ne (Ne.symm z)] at hj
        exact .inr ⟨.inr z, hj⟩
    · rw [AD.setR_ne c] at hj
      exact .inr ⟨.inl c, hj⟩
  refine ⟨h.pv, ?_, ⟨h.ap.i1, fun g g' z => ?_, fun g g' j j' q h1 h2 => ?_⟩, fun q hq => ?_, fun g => ?_⟩
  · obtain ⟨CA, h1, h2⟩ := h.ob
    exact ⟨CA, h1, by rw [upd_ne (fun z => by rw [show (a.setR f ((a.rows f).set ii x)).p = a.p from rfl] at z; rw [z, hB] at h2; cases h2)]; exact h2⟩
  · obtain ⟨j, hj⟩ := List.mem_iff_getElem?.mp z
    rcases mem g' j _ hj with ⟨_, _, e⟩ | ⟨_, e⟩
    · exact n1 g e.symm
    · exact h.ap.i2 g g' (List.mem_of_getElem? e)
  · rcases mem g j q h1 with ⟨e1, e2, e3⟩ | ⟨e1, e2⟩
    · rcases mem g' j' q h2 with ⟨k1, k2, _⟩ | ⟨_, k2⟩
      · exact ⟨e1.trans k1.symm, e2.trans k2.symm⟩
      · exact absurd (List.mem_of_getElem? k2) (by rw [e3]; exact n2 g')
    · rcases mem g' j' q h2 with ⟨_, _, k3⟩ | ⟨_, k2⟩
      · exact absurd (List.mem_of_getElem? e2) (by rw [k3]; exact n2 g)
      · exact h.ap.i3 g g' j j' q e2 k2
  · rcases hq with ⟨g, e⟩ | ⟨g, e⟩
    · exact h.fr q (.inl ⟨g, e⟩)
    · obtain ⟨j, hj⟩ := List.mem_iff_getElem?.mp e
      rcases mem g j q hj with ⟨_, _, e3⟩ | ⟨_, e2⟩
      · rw [e3]; exact px
      · exact h.fr q (.inr ⟨g, List.mem_of_getElem? e2⟩)
  · have ou : ∀ (g : Fd) (j : Nat) (q : Addr) (row : List Int), (a.rows g)[j]? = some q → (s.tb g)[j]? = some row → upd B (a.at_ f) (.lst (((a.rows f).map V.ref).set ii (.ref x))) q = some (.lst (row.map V.int)) := fun g j q row h1 h2 => by
      rw [upd_ne (fun z => h.ap.i2 f g (by rw [← z]; exact List.mem_of_getElem? h1))]
      exact (h.tb g).r j q row h1 h2
    by_cases c : g = f
    · subst c
      rw [SS.put_same, AD.setR_same]
      refine ⟨by rw [show (a.setR g ((a.rows g).set ii x)).at_ g = a.at_ g from rfl, upd_same, List.map_set], by rw [List.length_set, List.length_set]; exact (h.tb g).n, fun j q row h1 h2 => ?_⟩
      by_cases z : j = ii
      · subst z
        rw [List.getElem?_set_self hlen] at h1
        rw [List.getElem?_set_self hii] at h2
        cases h1; cases h2
        rw [upd_ne (n1 g)]; exact hx
      · rw [List.getElem?_set_ne (Ne.symm z)] at h1 h2
        exact ou g j q row h1 h2
    · rw [SS.put_ne c, AD.setR_ne c]
      exact ⟨by rw [show (a.setR f ((a.rows f).set ii x)).at_ g = a.at_ g from rfl, upd_ne (fun z => c (h.ap.i1 g f z))]; exact (h.tb g).l, (h.tb g).n, fun j q row h1 h2 => ou g j q row h1 h2⟩
end
end TL

namespace TL
open PySem PySem.Spec PyProof.Rows L2
def StT (X : Cx) (C : C0) (G : List Ent) (st : Stmt) (R : List Ent → Prop) : Prop := ∀ B H σ, Ok C G B H σ → ∀ (rest : List Stmt) (D : Ends), (∀ G' B' H' σ', R G' → TS B B' → Ok C G' B' H' σ' → wSs X rest D σ' H') → wSs X (st :: rest) D σ H
theorem ts_of {B B' : Hp} (s : Same B B') : TS B B' := fun p xs h => s p _ h
theorem TS.trans {A B D : Hp} (h : TS A B) (k : TS B D) : TS A D := fun p xs e => k p xs (h p xs e)
theorem ts_refl {B : Hp} : TS B B := fun _ _ h => h
section
variable {X : Cx} {C : C0} {G G' G0 G1 G2 : List Ent} {α β : Type} {r : Rp α} {e ex b b2 it : Expr} {rest : List Stmt} {body : Stmt} {D : Ends} {te : TE} {x y : Str} {i j : Nat} {p p2 pos pos' apos cpos spos spos2 tp : Pos} {P : Addr → Prop} {a : AD} {s : SS} {st : Stmt} {R : List Ent → Prop}
theorem gs_stT (h : StT X C G st R) (k : ∀ G', R G' → GS X C G' rest D) : GS X C G (st :: rest) D := fun B H σ O => h B H σ O rest D fun G' B' H' σ' r _ O' => k G' r B' H' σ' O'
theorem set_get {G : List Ent} {i : Nat} {e : Ent} (h : i < G.length) : (G.set i e)[i]? = some e := List.getElem?_set_self h
theorem ints_of {B : Hp} : ∀ {ws : List V} {l : List Int}, Paired (TL.rI.rel B) ws l → ws = l.map V.int
  | _, _, .nil => rfl
  | _, _, .cons h t => by rw [List.map_cons, ints_of t]; exact congrArg (· :: _) h
theorem AD.Apart.nc {a : AD} {mg : Str → Option Value} {B : Hp} {v : V} (h : StAt mg P a s B v) {q : Addr} (hq : B q = none) : ¬ a.cell q := fun hc => by
  rcases hc with ⟨f, e⟩ | ⟨f, e⟩
  · rw [e, (h.tb f).l] at hq; cases hq
  · obtain ⟨ii, hi⟩ := List.mem_iff_getElem?.mp e
    have : ii < (s.tb f).length := by rw [← (h.tb f).n]; exact lt_get hi
    rw [(h.tb f).r ii q _ hi (List.getElem?_eq_getElem this)] at hq; cases hq
theorem stT_set {f : Fd} {n : Int} {l : List Int} (i j : Nat) (hP : ∀ q, P q ↔ Fresh C q) (he : XE X C e G G1 (.own false TL.rI l)) (hb : XE X C b G1 G1 (.dat TL.rI n)) (h1 : G1[i]? = some (.dat (rSt X.mg P a) s)) (hj : G1[j]? = some (.dat rA (a.at_ f))) (fm : FirmG C.B1 (G1.set i .any))
    (hn : 0 ≤ n) (hn2 : n < (s.tb f).length)
    (hN : X.N[j]? = some x := by rfl) (hv : Vis X.env.scope x := by first | exact Or.inl rfl | exact Or.inr (Or.inl rfl) | exact Or.inr (Or.inr rfl)) (hd : (x == ("__debug__" : Str)) = false := by decide) (hcd : (x == ("__classdict__" : Str)) = false := by decide)
    (hs : swapsWithSole [.Subscript (.Name x p) b spos] e pos.line X.env = pure false := by rfl) (hw : swappedStores [.Subscript (.Name x p) b spos] e X.env = pure none := by rfl) (ha : (assignEach [.Subscript (.Name x p) b spos] X.env).map (·.2) = [assign (.Subscript (.Name x p) b spos) X.env] := by rfl)
    (hsub : ∀ v, assign (.Subscript (.Name x p) b spos) X.env v = (do
      let ov ← holding [v] (eval (.Name x p) X.env)
      let iv ← holding [v, ov] (eval b X.env)
      standAt spos
      holding [v, ov, iv] (setItem ov iv v)
      release [v, ov, iv] []) := by intro _; rfl) :
    StT X C G (.Assign [.Subscript (.Name x p) b spos] e pos) (fun G' => ∃ q, G' = G1.set i (.dat (rSt X.mg P (a.setR f ((a.rows f).set n.toNat q))) (s.put f (setA (s.tb f) n l)))) := fun B H σ O rest D k =>
  w_ps (ps_asg (pe_w e) (pg_sub (pe_var hN hv hd hcd) (pe_w b) set_list hsub) hs hw ha) (he B H σ O _ fun y B0 H0 O0 s0 hy ap => by
    obtain ⟨q, ws, rfl, bq, fq, O1, s1, hw1⟩ := O0.newList hy (fun p e => ap rfl p e)
    obtain ⟨ov, hs0, v0, rfl, hst⟩ := O0.slot h1
    obtain ⟨oj, hsj, vj, rfl, hvj⟩ := O0.slot hj
    have hvj : vj = .ref (a.at_ f) := hvj
    subst hvj
    obtain ⟨jj, rfl⟩ := Int.eq_ofNat_of_zero_le hn
    have hjj : jj < (s.tb f).length := by omega
    refine ⟨.ref (a.at_ f), hsj, hb.go O1 fun z B2 H2 O2 s2 hz => ?_⟩
    have hst2 := (hst.mono s1).mono s2
    have nq : ¬ a.cell q := AD.Apart.nc hst bq
    have b2 := (hst2.tb f).l
    have hlen : ((a.rows f).map V.ref).length = (s.tb f).length := by rw [List.length_map]; exact (hst2.tb f).n
    refine ⟨a.at_ f, (a.rows f).map V.ref, (jj : Int), jj, rfl, hz, O2.g.kn.x b2 rfl, ixN_natZ (by rw [hlen]; exact hjj), ?_⟩
    have hle : ((a.rows f).map V.ref).length ≤ sizeLine := O2.g.sm (a.at_ f) _ (O2.g.kn.x b2 rfl)
    obtain ⟨O3, s3, ts⟩ := (O2.drop (i := i)).chg fm ((hP _).mp (hst.fr _ (.inl ⟨f, rfl⟩))) b2 (ws' := ((a.rows f).map V.ref).set jj (.ref q)) (by rw [List.length_set]; exact hle)
    have hx : B2 q = some (.lst (l.map V.int)) := by
      rw [← ints_of hw1]; exact s2 _ _ upd_same
    have hnew := hst2.setRow (f := f) (ii := jj) (x := q) (row' := l) hjj hx ((hP q).mpr fq) nq
    exact k _ _ _ _ ⟨q, rfl⟩ ((ts_of ((s0.trans s1).trans s2)).trans ts) (O3.tell (lt_get h1) hs0 hnew))
theorem stT_rowSet {f : Fd} {ii : Nat} {q : Addr} {row : List Int} {n z : Int} (i j : Nat) (hP : ∀ q, P q ↔ Fresh C q) (hq : (a.rows f)[ii]? = some q) (hr : (s.tb f)[ii]? = some row) (he : XE X C e G G1 (.dat TL.rI z)) (hb : XE X C b G1 G1 (.dat TL.rI n)) (h1 : G1[i]? = some (.dat (rSt X.mg P a) s)) (hj : G1[j]? = some (.dat rA q)) (fm : FirmG C.B1 (G1.set i .any))
    (hn : 0 ≤ n) (hn2 : n < row.length)
    (hN : X.N[j]? = some x := by rfl) (hv : Vis X.env.scope x := by first | exact Or.inl rfl | exact Or.inr (Or.inl rfl) | exact Or.inr (Or.inr rfl)) (hd : (x == ("__debug__" : Str)) = false := by decide) (hcd : (x == ("__classdict__" : Str)) = false := by decide)
    (hs : swapsWithSole [.Subscript (.Name x p) b spos] e pos.line X.env = pure false := by rfl) (hw : swappedStores [.Subscript (.Name x p) b spos] e X.env = pure none := by rfl) (ha : (assignEach [.Subscript (.Name x p) b spos] X.env).map (·.2) = [assign (.Subscript (.Name x p) b spos) X.env] := by rfl)
    (hsub : ∀ v, assign (.Subscript (.Name x p) b spos) X.env v = (do
      let ov ← holding [v] (eval (.Name x p) X.env)
      let iv ← holding [v, ov] (eval b X.env)
      standAt spos
      holding [v, ov, iv] (setItem ov iv v)
      release [v, ov, iv] []) := by intro _; rfl) :
    StT X C G (.Assign [.Subscript (.Name x p) b spos] e pos) (fun G' => G' = G1.set i (.dat (rSt X.mg P a) (s.put f ((s.tb f).set ii (setA row n z))))) := fun B H σ O rest D k =>
  w_ps (ps_asg (pe_w e) (pg_sub (pe_var hN hv hd hcd) (pe_w b) set_list hsub) hs hw ha) (he.go O fun y B0 H0 O0 s0 hy => by
    have hy : y = .int z := hy
    subst hy
    obtain ⟨ov, hs0, v0, rfl, hst⟩ := O0.slot h1
    obtain ⟨oj, hsj, vj, rfl, hvj⟩ := O0.slot hj
    have hvj : vj = .ref q := hvj
    subst hvj
    obtain ⟨jj, rfl⟩ := Int.eq_ofNat_of_zero_le hn
    have hjj : jj < row.length := by omega
    refine ⟨.ref q, hsj, hb.go O0 fun w B2 H2 O2 s2 hz => ?_⟩
    have hst2 := hst.mono s2
    have b2 := (hst2.tb f).r ii q row hq hr
    refine ⟨q, row.map V.int, (jj : Int), jj, rfl, hz, O2.g.kn.x b2 rfl, ixN_natZ (by rw [List.length_map]; exact hjj), ?_⟩
    have hle : (row.map V.int).length ≤ sizeLine := O2.g.sm q _ (O2.g.kn.x b2 rfl)
    have er : (row.map V.int).set jj (.int z) = (setA row (jj : Int) z).map V.int := by
      unfold setA; rw [List.map_set]; rfl
    rw [er]
    obtain ⟨O3, s3, ts⟩ := (O2.drop (i := i)).chg fm ((hP _).mp (hst.fr _ (.inr ⟨f, List.mem_of_getElem? hq⟩))) b2 (ws' := (setA row (jj : Int) z).map V.int) (by rw [List.length_map, setA_len]; rw [List.length_map] at hle; exact hle)
    exact k _ _ _ _ rfl ((ts_of (s0.trans s2)).trans ts) (O3.tell (lt_get h1) hs0 (hst2.row hq hr)))
def mapTo (F : List Int → List Int) (k : Nat) (t : Tbl) : Tbl := (t.take k).map F ++ t.drop k
theorem mapTo_zero {F : List Int → List Int} {t : Tbl} : mapTo F 0 t = t := by unfold mapTo; rw [List.take_zero, List.map_nil, List.drop_zero]; rfl
theorem mapTo_all {F : List Int → List Int} {t : Tbl} {k : Nat} (h : t.length ≤ k) : mapTo F k t = t.map F := by unfold mapTo; rw [List.take_of_length_le h, List.drop_of_length_le h, List.append_nil]
theorem mapTo_get {F : List Int → List Int} {t : Tbl} {k : Nat} {row : List Int} (h : t[k]? = some row) : (mapTo F k t)[k]? = some row := by
  have hk := lt_get h
  unfold mapTo
  rw [List.getElem?_append_right (by rw [List.length_map, List.length_take]; omega), List.length_map, List.length_take, List.getElem?_drop, show k + (k - min k t.length) = k from by omega]
  exact h
theorem mapTo_next {F : List Int → List Int} {t : Tbl} {k : Nat} {row : List Int} (h : t[k]? = some row) : (mapTo F k t).set k (F row) = mapTo F (k + 1) t := by
  have hk := lt_get h
  have hr : t[k] = row := by rw [List.getElem?_eq_getElem hk] at h; exact Option.some.inj h
  unfold mapTo
  have e : t.drop k = row :: t.drop (k + 1) := by rw [List.drop_eq_getElem_cons hk, hr]
  rw [e, List.set_append_right _ _ (by rw [List.length_map, List.length_take]; omega), List.length_map, List.length_take, show k - min k t.length = 0 from by omega, List.set_cons_zero, List.take_add_one, h, List.map_append]
  show _ = (List.map F (t.take k) ++ [F row]) ++ _
  rw [List.append_assoc]
  rfl
theorem stT_rows {f : Fd} {F : List Int → List Int} (i j : Nat) (hij : i ≠ j) (he : XE X C it G G1 (.dat rA (a.at_ f))) (h1 : G1[i]? = some (.dat (rSt X.mg P a) s)) (hlj : j < G1.length)
    (hb : ∀ (k : Nat) (q : Addr) (row : List Int) (s' : SS), s'.n = s.n → s'.m = s.m → (a.rows f)[k]? = some q → (s.tb f)[k]? = some row → (s'.tb f)[k]? = some row → StT X C ((G1.set i (.dat (rSt X.mg P a) s')).set j (.dat rA q)) body (fun G' => Le G' ((G1.set i (.dat (rSt X.mg P a) (s'.put f ((s'.tb f).set k (F row))))).set j .any)))
    (hN : X.N.Nodup) (hj : X.N[j]? = some y) (hx : Loc X.env.scope y) (hp : PassesOwn (model X.prog X.w) X.A X.env X.xe := by exact PassesOwn.never) (hc : X.calm = true := by rfl)
    (hf : X.fn y = true ∨ X.env.scope.names.lookup y = some .local := by first | exact .inl rfl | exact .inr rfl) (hfs : ∀ x, foldedSetIterable it X.env x = pure x := by intro _; rfl) :
    StT X C G (.For (.Name y tp) it [body] [] pos) (fun G' => G' = (G1.set i (.dat (rSt X.mg P a) (s.put f ((s.tb f).map F)))).set j .any) := fun B H σ O rest D k =>
  w_ps (ps_for hp hc (pi_list (pe_w it)) (pg_name hN hj hx hf) (pss_w [body]) hfs) (he.go O fun v B1 H1 O1 s1 hv => by
    have hv : v = .ref (a.at_ f) := hv
    subst hv
    obtain ⟨ov, hs0, v0, rfl, hst⟩ := O1.slot h1
    have hi := lt_get h1
    have hl1 := (hst.tb f).l
    have gi : ∀ (s' : SS) (e : Ent), ((G1.set i (.dat (rSt X.mg P a) s')).set j e)[i]? = some (.dat (rSt X.mg P a) s') := fun s' e => by
      rw [List.getElem?_set_ne (Ne.symm hij)]; exact set_get hi
    refine ⟨a.at_ f, rfl, ⟨_, SqL.of (O1.g.kn.x hl1 rfl)⟩, ?_⟩
    refine for_list (xs := (a.rows f).map V.ref) (fun kk σ' H' => ∃ B', TS B1 B' ∧ Ok C ((G1.set i (.dat (rSt X.mg P a) (s.put f (mapTo F kk (s.tb f))))).set j .any) B' H' σ') ?_ (fun kk σ' H' _ hW => ?_) (fun kk w σ' H' hw hW => ?_) (fun σ' H' hW => ?_)
    · refine ⟨B1, ts_refl, ?_⟩
      rw [mapTo_zero, SS.put_self]
      refine (Ok.drop (i := j) ?_)
      rw [show G1.set i (.dat (rSt X.mg P a) s) = G1 from by
        refine List.ext_getElem? fun z => ?_
        by_cases c : i = z
        · subst c; rw [set_get hi, h1]
        · rw [List.getElem?_set_ne c]]
      exact O1
    · obtain ⟨B', _, O'⟩ := hW
      obtain ⟨_, _, _, rfl, hst'⟩ := O'.slot (gi _ _)
      exact SqL.of (O'.g.kn.x (hst'.tb f).l rfl)
    · obtain ⟨B', ts', O'⟩ := hW
      rw [List.getElem?_map] at hw
      cases eq : (a.rows f)[kk]? with
      | none => rw [eq] at hw; cases hw
      | some q =>
        rw [eq] at hw
        cases hw
        have hkl : kk < (s.tb f).length := by rw [← (hst.tb f).n]; exact lt_get eq
        have er : (s.tb f)[kk]? = some (s.tb f)[kk] := List.getElem?_eq_getElem hkl
        generalize (s.tb f)[kk] = row at er
        have O2 : Ok C ((G1.set i (.dat (rSt X.mg P a) (s.put f (mapTo F kk (s.tb f))))).set j (.dat rA q)) B' H' (σ'.set j (some (.ref q))) := by
          have := O'.storeD (i := j) (r := rA) (a := q) (v := .ref q) rfl
          rw [List.set_set] at this
          exact this
        refine hb kk q row (s.put f (mapTo F kk (s.tb f))) rfl rfl eq er (by rw [SS.put_same]; exact mapTo_get er) B' H' _ O2 [] _ fun G' B3 H3 σ3 hle ts3 O3 => ?_
        refine ⟨fun pins sh I => pss_nil.run pins sh σ3 H3 _ I ⟨B3, ts'.trans ts3, ?_⟩⟩
        have := O3.le hle
        rw [SS.put_same, mapTo_next er, SS.put_put] at this
        exact this
    · obtain ⟨B', ts', O'⟩ := hW
      rw [List.length_map, mapTo_all (Nat.le_of_eq (hst.tb f).n.symm)] at O'
      exact k _ _ _ _ rfl ((ts_of s1).trans ts') O')
theorem stT_two {e1 e2 : Expr} {kk : Nat} {tpos : Pos} {a1 a2 : Addr} {R1 R2 : List Ent → Prop} (j : Nat) (he : XE X C (.Tuple [e1, e2] kk tpos) G G1 (.dat (TL.rP rA rA) (a1, a2)))
    (hb1 : StT X C (G1.set j (.dat rA a1)) body R1) (hb2 : ∀ G', R1 G' → StT X C (G'.set j (.dat rA a2)) body R2)
    (hN : X.N.Nodup) (hj : X.N[j]? = some y) (hx : Loc X.env.scope y) (hp : PassesOwn (model X.prog X.w) X.A X.env X.xe := by exact PassesOwn.never) (hc : X.calm = true := by rfl)
    (hf : X.fn y = true ∨ X.env.scope.names.lookup y = some .local := by first | exact .inl rfl | exact .inr rfl) (hfs : ∀ x, foldedSetIterable (.Tuple [e1, e2] kk tpos) X.env x = pure x := by intro _; rfl) :
    StT X C G (.For (.Name y tp) (.Tuple [e1, e2] kk tpos) [body] [] pos) R2 := fun B H σ O rest D k =>
  w_ps (ps_for hp hc (pi_tup (pe_w _)) (pg_name hN hj hx hf) (pss_w [body]) hfs) (he.go O fun v B1 H1 O1 s1 hv => by
    obtain ⟨t, v1, v2, rfl, ht, hv1, hv2⟩ := hv
    have hv1 : v1 = .ref a1 := hv1
    have hv2 : v2 = .ref a2 := hv2
    subst hv1 hv2
    refine ⟨t, rfl, ⟨_, SqT.of (O1.g.kn.x ht rfl)⟩, ?_⟩
    refine for_tup (xs := [V.ref a1, V.ref a2]) (fun kk σ' H' => ∃ B' G', TS B1 B' ∧ Ok C G' B' H' σ' ∧ (kk = 0 → G' = G1) ∧ (kk = 1 → R1 G') ∧ (kk = 2 → R2 G')) ⟨B1, G1, ts_refl, O1, fun _ => rfl, fun z => (by cases z), fun z => (by cases z)⟩ (fun kk σ' H' _ hW => ?_) (fun kk w σ' H' hw hW => ?_) (fun σ' H' hW => ?_)
    · obtain ⟨B', G', ts', O', _⟩ := hW
      exact SqT.of (O'.g.kn.x (ts' _ _ ht) rfl)
    · obtain ⟨B', G', ts', O', g0, g1, _⟩ := hW
      match kk, hw with
      | 0, hw =>
        cases hw
        have g0 := g0 rfl
        subst g0
        refine hb1 B' H' _ (O'.storeD (i := j) (r := rA) (a := a1) (v := .ref a1) rfl) [] _ fun G2 B3 H3 σ3 hr ts3 O3 => ?_
        exact ⟨fun pins sh I => pss_nil.run pins sh σ3 H3 _ I ⟨B3, G2, ts'.trans ts3, O3, fun z => (by cases z), fun _ => hr, fun z => (by cases z)⟩⟩
      | 1, hw =>
        cases hw
        refine hb2 G' (g1 rfl) B' H' _ (O'.storeD (i := j) (r := rA) (a := a2) (v := .ref a2) rfl) [] _ fun G2 B3 H3 σ3 hr ts3 O3 => ?_
        exact ⟨fun pins sh I => pss_nil.run pins sh σ3 H3 _ I ⟨B3, G2, ts'.trans ts3, O3, fun z => (by cases z), fun z => (by cases z), fun _ => hr⟩⟩
    · obtain ⟨B', G', ts', O', _, _, g2⟩ := hW
      exact k _ _ _ _ (g2 rfl) ((ts_of s1).trans ts') O')
end
end TL

namespace TL
open PySem PySem.Spec PyProof.Rows L2
def swp {α : Type} (l : List α) (n m : Nat) (x y : α) : List α := (l.set n x).set m y
theorem swp_len {α : Type} {l : List α} {n m : Nat} {x y : α} : (swp l n m x y).length = l.length := by unfold swp; rw [List.length_set, List.length_set]
def swi (n m k : Nat) : Nat := if k = m then n else if k = n then m else k
theorem swp_get {α : Type} {l : List α} {n m k : Nat} {x y : α} (hx : l[n]? = some x) (hy : l[m]? = some y) : (swp l n m y x)[k]? = l[swi n m k]? := by
  unfold swp swi
  have h1 := lt_get hx
  have h2 := lt_get hy
  by_cases c : k = m
  · subst c
    rw [if_pos rfl, List.getElem?_set_self (by rw [List.length_set]; exact h2), hx]
  · rw [if_neg c, List.getElem?_set_ne (Ne.symm c)]
    by_cases d : k = n
    · subst d
      rw [if_pos rfl, List.getElem?_set_self h1, hy]
    · rw [if_neg d, List.getElem?_set_ne (Ne.symm d)]
theorem swi_inj {n m k k' : Nat} (h : swi n m k = swi n m k') : k = k' := by
  unfold swi at h
  split at h <;> split at h <;> (try split at h) <;> (try split at h) <;> omega
section
variable {X : Cx} {C : C0} {G G' G0 G1 G2 : List Ent} {α β : Type} {r : Rp α} {e ex b b2 it : Expr} {rest : List Stmt} {body : Stmt} {D : Ends} {te : TE} {x y : Str} {i j : Nat} {p p2 pos pos' apos cpos spos spos2 tp : Pos} {P : Addr → Prop} {a : AD} {s : SS} {st : Stmt} {R : List Ent → Prop}
theorem StAt.swap {mg : Str → Option Value} {B : Hp} {v : V} {f : Fd} {n m : Nat} {q1 q2 : Addr} {r1 r2 : List Int} (h : StAt mg P a s B v) (h1 : (a.rows f)[n]? = some q1) (h2 : (a.rows f)[m]? = some q2) (k1 : (s.tb f)[n]? = some r1) (k2 : (s.tb f)[m]? = some r2) :
    StAt mg P (a.setR f (swp (a.rows f) n m q2 q1)) (s.put f (swp (s.tb f) n m r2 r1)) (upd B (a.at_ f) (.lst ((swp (a.rows f) n m q2 q1).map V.ref))) v := by
  have hB := (h.tb f).l
  have mem : ∀ (g : Fd) (k : Nat) (q : Addr), ((a.setR f (swp (a.rows f) n m q2 q1)).rows g)[k]? = some q → (a.rows g)[if g = f then swi n m k else k]? = some q := fun g k q hk => by
    by_cases c : g = f
    · subst c
      rw [AD.setR_same, swp_get h1 h2] at hk
      rw [if_pos rfl]; exact hk
    · rw [AD.setR_ne c] at hk
      rw [if_neg c]; exact hk
  refine ⟨h.pv, ?_, ⟨h.ap.i1, fun g g' z => ?_, fun g g' k k' q e1 e2 => ?_⟩, fun q hq => ?_, fun g => ?_⟩
  · obtain ⟨CA, c1, c2⟩ := h.ob
    exact ⟨CA, c1, by rw [upd_ne (fun z => by rw [show (a.setR f (swp (a.rows f) n m q2 q1)).p = a.p from rfl] at z; rw [z, hB] at c2; cases c2)]; exact c2⟩
  · obtain ⟨k, hk⟩ := List.mem_iff_getElem?.mp z
    exact h.ap.i2 g g' (List.mem_of_getElem? (mem g' k _ hk))
  · obtain ⟨c1, c2⟩ := h.ap.i3 g g' _ _ q (mem g k q e1) (mem g' k' q e2)
    subst c1
    refine ⟨rfl, ?_⟩
    split at c2
    · exact swi_inj c2
    · exact c2
  · rcases hq with ⟨g, e⟩ | ⟨g, e⟩
    · exact h.fr q (.inl ⟨g, e⟩)
    · obtain ⟨k, hk⟩ := List.mem_iff_getElem?.mp e
      exact h.fr q (.inr ⟨g, List.mem_of_getElem? (mem g k q hk)⟩)
  · have ou : ∀ (g : Fd) (j : Nat) (q : Addr) (row : List Int), (a.rows g)[j]? = some q → (s.tb g)[j]? = some row → upd B (a.at_ f) (.lst ((swp (a.rows f) n m q2 q1).map V.ref)) q = some (.lst (row.map V.int)) := fun g j q row h1 h2 => by
      rw [upd_ne (fun z => h.ap.i2 f g (by rw [← z]; exact List.mem_of_getElem? h1))]
      exact (h.tb g).r j q row h1 h2
    by_cases c : g = f
    · subst c
      rw [SS.put_same, AD.setR_same]
      refine ⟨upd_same, by rw [swp_len, swp_len]; exact (h.tb g).n, fun j q row e1 e2 => ?_⟩
      rw [swp_get h1 h2] at e1
      rw [swp_get k1 k2] at e2
      exact ou g _ q row e1 e2
    · rw [SS.put_ne c, AD.setR_ne c]
      exact ⟨by rw [show (a.setR f (swp (a.rows f) n m q2 q1)).at_ g = a.at_ g from rfl, upd_ne (fun z => c (h.ap.i1 g f z))]; exact (h.tb g).l, (h.tb g).n, fun j q row e1 e2 => ou g j q row e1 e2⟩
theorem stT_swap {f : Fd} {n m : Int} {q1 q2 : Addr} {r1 r2 : List Int} {kk2 : Nat} {tt : Pos} (i j : Nat) (hij : i ≠ j) (hP : ∀ q, P q ↔ Fresh C q) (he : XE X C e G G1 (.dat (TL.rP rA rA) (q2, q1))) (hb : XE X C b (G1.set i .any) (G1.set i .any) (.dat TL.rI n)) (hb2 : XE X C b2 (G1.set i .any) (G1.set i .any) (.dat TL.rI m))
    (h1 : G1[i]? = some (.dat (rSt X.mg P a) s)) (hj : G1[j]? = some (.dat rA (a.at_ f))) (fm : FirmG C.B1 (G1.set i .any))
    (hn : 0 ≤ n) (hm : 0 ≤ m) (hq1 : (a.rows f)[n.toNat]? = some q1) (hq2 : (a.rows f)[m.toNat]? = some q2) (hr1 : (s.tb f)[n.toNat]? = some r1) (hr2 : (s.tb f)[m.toNat]? = some r2)
    (hN : X.N[j]? = some x := by rfl) (hv : Vis X.env.scope x := by first | exact Or.inl rfl | exact Or.inr (Or.inl rfl) | exact Or.inr (Or.inr rfl)) (hd : (x == ("__debug__" : Str)) = false := by decide) (hcd : (x == ("__classdict__" : Str)) = false := by decide) (hc : X.calm = true := by rfl)
    (hs : swapsWithSole [.Tuple [.Subscript (.Name x p) b spos, .Subscript (.Name x p2) b2 spos2] kk2 tt] e pos.line X.env = pure false := by rfl) (hw : swappedStores [.Tuple [.Subscript (.Name x p) b spos, .Subscript (.Name x p2) b2 spos2] kk2 tt] e X.env = pure none := by rfl)
    (ha : (assignEach [.Tuple [.Subscript (.Name x p) b spos, .Subscript (.Name x p2) b2 spos2] kk2 tt] X.env).map (·.2) = [assign (.Tuple [.Subscript (.Name x p) b spos, .Subscript (.Name x p2) b2 spos2] kk2 tt) X.env] := by rfl)
    (ht : (assignEach [.Subscript (.Name x p) b spos, .Subscript (.Name x p2) b2 spos2] X.env).length = 2 := by rfl) (hst : (assignEach [.Subscript (.Name x p) b spos, .Subscript (.Name x p2) b2 spos2] X.env).findIdx? (·.1) = none := by rfl)
    (hs1 : (assignEach [.Subscript (.Name x p) b spos, .Subscript (.Name x p2) b2 spos2] X.env).map (·.2) = assign (.Subscript (.Name x p) b spos) X.env :: (assignEach [.Subscript (.Name x p2) b2 spos2] X.env).map (·.2) := by rfl) (hs2 : (assignEach [.Subscript (.Name x p2) b2 spos2] X.env).map (·.2) = assign (.Subscript (.Name x p2) b2 spos2) X.env :: (assignEach [] X.env).map (·.2) := by rfl)
    (hsub : ∀ v, assign (.Subscript (.Name x p) b spos) X.env v = (do
      let ov ← holding [v] (eval (.Name x p) X.env)
      let iv ← holding [v, ov] (eval b X.env)
      standAt spos
      holding [v, ov, iv] (setItem ov iv v)
      release [v, ov, iv] []) := by intro _; rfl)
    (hsub2 : ∀ v, assign (.Subscript (.Name x p2) b2 spos2) X.env v = (do
      let ov ← holding [v] (eval (.Name x p2) X.env)
      let iv ← holding [v, ov] (eval b2 X.env)
      standAt spos2
      holding [v, ov, iv] (setItem ov iv v)
      release [v, ov, iv] []) := by intro _; rfl) :
    StT X C G (.Assign [.Tuple [.Subscript (.Name x p) b spos, .Subscript (.Name x p2) b2 spos2] kk2 tt] e pos) (fun G' => G' = G1.set i (.dat (rSt X.mg P (a.setR f (swp (a.rows f) n.toNat m.toNat q2 q1))) (s.put f (swp (s.tb f) n.toNat m.toNat r2 r1)))) := fun B H σ O rest D k =>
  w_ps (ps_asg (pe_w e) (pg_tup hc (pgs_cons (pg_sub (pe_var hN hv hd hcd) (pe_w b) set_list hsub) (pgs_cons (pg_sub (pe_var hN hv hd hcd) (pe_w b2) set_list hsub2) pgs_nil hs2) hs1) ht hst) hs hw ha) (he.go O fun y B1 H1 O1 s1 hy => by
    obtain ⟨t, y1, y2, rfl, ht1, hy1, hy2⟩ := hy
    have hy1 : y1 = .ref q2 := hy1
    have hy2 : y2 = .ref q1 := hy2
    subst hy1 hy2
    obtain ⟨ov, hs0, v0, rfl, hstt⟩ := O1.slot h1
    obtain ⟨oj, hsj, vj, rfl, hvj⟩ := O1.slot hj
    have hvj : vj = .ref (a.at_ f) := hvj
    subst hvj
    obtain ⟨jn, rfl⟩ := Int.eq_ofNat_of_zero_le hn
    obtain ⟨jm, rfl⟩ := Int.eq_ofNat_of_zero_le hm
    have hq1 : (a.rows f)[jn]? = some q1 := hq1
    have hq2 : (a.rows f)[jm]? = some q2 := hq2
    have ln : jn < (a.rows f).length := lt_get hq1
    have lm : jm < (a.rows f).length := lt_get hq2
    have fr := (hP _).mp (hstt.fr _ (.inl ⟨f, rfl⟩))
    refine ⟨t, [.ref q2, .ref q1], rfl, SqT.of (O1.g.kn.x ht1 rfl), rfl, .ref q2, [.ref q1], rfl, .ref (a.at_ f), hsj, hb.go (O1.drop (i := i)) fun z B2 H2 O2 s2 hz => ?_⟩
    have hst2 := hstt.mono s2
    have b2 := (hst2.tb f).l
    have hle : ((a.rows f).map V.ref).length ≤ sizeLine := O2.g.sm (a.at_ f) _ (O2.g.kn.x b2 rfl)
    refine ⟨a.at_ f, (a.rows f).map V.ref, (jn : Int), jn, rfl, hz, O2.g.kn.x b2 rfl, ixN_natZ (by rw [List.length_map]; exact ln), .ref q1, [], rfl, ?_⟩
    have fm2 : FirmG C.B1 ((G1.set i .any).set i .any) := by rw [List.set_set]; exact fm
    obtain ⟨O3, s3, ts3⟩ := (O2.drop (i := i)).chg fm2 fr b2 (ws' := ((a.rows f).map V.ref).set jn (.ref q2)) (by rw [List.length_set]; exact hle)
    rw [List.set_set] at O3
    refine ⟨.ref (a.at_ f), hsj, hb2.go O3 fun z2 B4 H4 O4 s4 hz2 => ?_⟩
    have b4 := s4 _ _ (upd_same (H := B2) (a := a.at_ f) (o := .lst (((a.rows f).map V.ref).set jn (.ref q2))))
    refine ⟨a.at_ f, ((a.rows f).map V.ref).set jn (.ref q2), (jm : Int), jm, rfl, hz2, O4.g.kn.x b4 rfl, ixN_natZ (by rw [List.length_set, List.length_map]; exact lm), rfl, ?_⟩
    obtain ⟨O5, s5, ts5⟩ := (O4.drop (i := i)).chg fm2 fr b4 (ws' := (((a.rows f).map V.ref).set jn (.ref q2)).set jm (.ref q1)) (by rw [List.length_set, List.length_set]; exact hle)
    rw [List.set_set] at O5
    have ew : (((a.rows f).map V.ref).set jn (.ref q2)).set jm (.ref q1) = (swp (a.rows f) jn jm q2 q1).map V.ref := by
      unfold swp; rw [List.map_set, List.map_set]
    rw [ew] at O5 ts5 ⊢
    have hnew := StAt.swap (B := B2) (f := f) hst2 hq1 hq2 (show (s.tb f)[jn]? = some r1 from hr1) (show (s.tb f)[jm]? = some r2 from hr2)
    have sB : Same (upd B2 (a.at_ f) (.lst ((swp (a.rows f) jn jm q2 q1).map V.ref))) (upd B4 (a.at_ f) (.lst ((swp (a.rows f) jn jm q2 q1).map V.ref))) := fun z o hz => by
      by_cases c : z = a.at_ f
      · subst c; rw [upd_same] at hz ⊢; exact hz
      · rw [upd_ne c] at hz ⊢
        exact s4 z o (by rw [upd_ne c]; exact hz)
    exact k _ _ _ _ rfl ((((ts_of (s1.trans s2)).trans ts3).trans (ts_of s4)).trans ts5) (O5.tell (lt_get h1) hs0 (hnew.mono sB)))
theorem stT_rowSwap {f : Fd} {ii : Nat} {q : Addr} {row : List Int} {n m z1 z2 : Int} {kk2 : Nat} {tt : Pos} (i j : Nat) (hij : i ≠ j) (hP : ∀ q, P q ↔ Fresh C q) (hq : (a.rows f)[ii]? = some q) (hr : (s.tb f)[ii]? = some row) (he : XE X C e G G1 (.dat (TL.rP TL.rI TL.rI) (z2, z1))) (hb : XE X C b (G1.set i .any) (G1.set i .any) (.dat TL.rI n)) (hb2 : XE X C b2 (G1.set i .any) (G1.set i .any) (.dat TL.rI m))
    (h1 : G1[i]? = some (.dat (rSt X.mg P a) s)) (hj : G1[j]? = some (.dat rA q)) (fm : FirmG C.B1 (G1.set i .any))
    (hn : 0 ≤ n) (hm : 0 ≤ m) (hn2 : n < row.length) (hm2 : m < row.length)
    (hN : X.N[j]? = some x := by rfl) (hv : Vis X.env.scope x := by first | exact Or.inl rfl | exact Or.inr (Or.inl rfl) | exact Or.inr (Or.inr rfl)) (hd : (x == ("__debug__" : Str)) = false := by decide) (hcd : (x == ("__classdict__" : Str)) = false := by decide) (hc : X.calm = true := by rfl)
    (hs : swapsWithSole [.Tuple [.Subscript (.Name x p) b spos, .Subscript (.Name x p2) b2 spos2] kk2 tt] e pos.line X.env = pure false := by rfl) (hw : swappedStores [.Tuple [.Subscript (.Name x p) b spos, .Subscript (.Name x p2) b2 spos2] kk2 tt] e X.env = pure none := by rfl)
    (ha : (assignEach [.Tuple [.Subscript (.Name x p) b spos, .Subscript (.Name x p2) b2 spos2] kk2 tt] X.env).map (·.2) = [assign (.Tuple [.Subscript (.Name x p) b spos, .Subscript (.Name x p2) b2 spos2] kk2 tt) X.env] := by rfl)
    (ht : (assignEach [.Subscript (.Name x p) b spos, .Subscript (.Name x p2) b2 spos2] X.env).length = 2 := by rfl) (hst : (assignEach [.Subscript (.Name x p) b spos, .Subscript (.Name x p2) b2 spos2] X.env).findIdx? (·.1) = none := by rfl)
    (hs1 : (assignEach [.Subscript (.Name x p) b spos, .Subscript (.Name x p2) b2 spos2] X.env).map (·.2) = assign (.Subscript (.Name x p) b spos) X.env :: (assignEach [.Subscript (.Name x p2) b2 spos2] X.env).map (·.2) := by rfl) (hs2 : (assignEach [.Subscript (.Name x p2) b2 spos2] X.env).map (·.2) = assign (.Subscript (.Name x p2) b2 spos2) X.env :: (assignEach [] X.env).map (·.2) := by rfl)
    (hsub : ∀ v, assign (.Subscript (.Name x p) b spos) X.env v = (do
      let ov ← holding [v] (eval (.Name x p) X.env)
      let iv ← holding [v, ov] (eval b X.env)
      standAt spos
      holding [v, ov, iv] (setItem ov iv v)
      release [v, ov, iv] []) := by intro _; rfl)
    (hsub2 : ∀ v, assign (.Subscript (.Name x p2) b2 spos2) X.env v = (do
      let ov ← holding [v] (eval (.Name x p2) X.env)
      let iv ← holding [v, ov] (eval b2 X.env)
      standAt spos2
      holding [v, ov, iv] (setItem ov iv v)
      release [v, ov, iv] []) := by intro _; rfl) :
    StT X C G (.Assign [.Tuple [.Subscript (.Name x p) b spos, .Subscript (.Name x p2) b2 spos2] kk2 tt] e pos) (fun G' => G' = G1.set i (.dat (rSt X.mg P a) (s.put f ((s.tb f).set ii (setA (setA row n z2) m z1))))) := fun B H σ O rest D k =>
  w_ps (ps_asg (pe_w e) (pg_tup hc (pgs_cons (pg_sub (pe_var hN hv hd hcd) (pe_w b) set_list hsub) (pgs_cons (pg_sub (pe_var hN hv hd hcd) (pe_w b2) set_list hsub2) pgs_nil hs2) hs1) ht hst) hs hw ha) (he.go O fun y B1 H1 O1 s1 hy => by
    obtain ⟨t, y1, y2, rfl, ht1, hy1, hy2⟩ := hy
    have hy1 : y1 = .int z2 := hy1
    have hy2 : y2 = .int z1 := hy2
    subst hy1 hy2
    obtain ⟨ov, hs0, v0, rfl, hstt⟩ := O1.slot h1
    obtain ⟨oj, hsj, vj, rfl, hvj⟩ := O1.slot hj
    have hvj : vj = .ref q := hvj
    subst hvj
    obtain ⟨jn, rfl⟩ := Int.eq_ofNat_of_zero_le hn
    obtain ⟨jm, rfl⟩ := Int.eq_ofNat_of_zero_le hm
    have ln : jn < row.length := by omega
    have lm : jm < row.length := by omega
    have fr := (hP _).mp (hstt.fr _ (.inr ⟨f, List.mem_of_getElem? hq⟩))
    refine ⟨t, [.int z2, .int z1], rfl, SqT.of (O1.g.kn.x ht1 rfl), rfl, .int z2, [.int z1], rfl, .ref q, hsj, hb.go (O1.drop (i := i)) fun z B2 H2 O2 s2 hz => ?_⟩
    have hst2 := hstt.mono s2
    have b2 := (hst2.tb f).r ii q row hq hr
    have hle : (row.map V.int).length ≤ sizeLine := O2.g.sm q _ (O2.g.kn.x b2 rfl)
    refine ⟨q, row.map V.int, (jn : Int), jn, rfl, hz, O2.g.kn.x b2 rfl, ixN_natZ (by rw [List.length_map]; exact ln), .int z1, [], rfl, ?_⟩
    have fm2 : FirmG C.B1 ((G1.set i .any).set i .any) := by rw [List.set_set]; exact fm
    obtain ⟨O3, s3, ts3⟩ := (O2.drop (i := i)).chg fm2 fr b2 (ws' := (row.map V.int).set jn (.int z2)) (by rw [List.length_set]; exact hle)
    rw [List.set_set] at O3
    refine ⟨.ref q, hsj, hb2.go O3 fun w2 B4 H4 O4 s4 hz2 => ?_⟩
    have b4 := s4 _ _ (upd_same (H := B2) (a := q) (o := .lst ((row.map V.int).set jn (.int z2))))
    refine ⟨q, (row.map V.int).set jn (.int z2), (jm : Int), jm, rfl, hz2, O4.g.kn.x b4 rfl, ixN_natZ (by rw [List.length_set, List.length_map]; exact lm), rfl, ?_⟩
    obtain ⟨O5, s5, ts5⟩ := (O4.drop (i := i)).chg fm2 fr b4 (ws' := ((row.map V.int).set jn (.int z2)).set jm (.int z1)) (by rw [List.length_set, List.length_set]; exact hle)
    rw [List.set_set] at O5
    have ew : ((row.map V.int).set jn (.int z2)).set jm (.int z1) = (setA (setA row (jn : Int) z2) (jm : Int) z1).map V.int := by
      unfold setA; rw [List.map_set, List.map_set]; rfl
    rw [ew] at O5 ts5 ⊢
    have hnew := StAt.row (B := B2) (row' := setA (setA row (jn : Int) z2) (jm : Int) z1) hst2 hq hr
    have sB : Same (upd B2 q (.lst ((setA (setA row (jn : Int) z2) (jm : Int) z1).map V.int))) (upd B4 q (.lst ((setA (setA row (jn : Int) z2) (jm : Int) z1).map V.int))) := fun z o hz => by
      by_cases c : z = q
      · subst c; rw [upd_same] at hz ⊢; exact hz
      · rw [upd_ne c] at hz ⊢
        exact s4 z o (by rw [upd_ne c]; exact hz)
    exact k _ _ _ _ rfl ((((ts_of (s1.trans s2)).trans ts3).trans (ts_of s4)).trans ts5) (O5.tell (lt_get h1) hs0 (hnew.mono sB)))
end
end TL

namespace TL
open PySem PySem.Spec PyProof.Rows L2
open Classical in
noncomputable def mnP (S : Addr → Prop) (B : Hp) : Hp := fun b => if S b then none else B b
theorem mnP_off {S : Addr → Prop} {B : Hp} {b : Addr} (h : ¬ S b) : mnP S B b = B b := if_neg h
theorem mnP_on {S : Addr → Prop} {B : Hp} {b : Addr} (h : S b) : mnP S B b = none := if_pos h
theorem mnP_some {S : Addr → Prop} {B : Hp} {b : Addr} {o : HO} (h : mnP S B b = some o) : ¬ S b ∧ B b = some o := by
  by_cases c : S b
  · rw [mnP_on c] at h; cases h
  · rw [mnP_off c] at h; exact ⟨c, h⟩
noncomputable abbrev CS (S : Addr → Prop) (B H : Hp) : C0 := ⟨mnP S B, mnP S H, [], [], mnP S B⟩
structure MS (κ : Type) where
  st : κ → SS
  args : κ → List Int
  post : κ → SS
  res : κ → V
def MS.sp {κ : Type} (mg : Str → Option Value) (F : MS κ) : Sp := fun vs H Q _ => ∃ (y : κ) (B : Hp) (v : V) (a : AD), vs = v :: (F.args y).map V.int ∧ StAt mg (fun _ => True) a (F.st y) B v ∧ Kn B H ∧ (∀ b o, H b = some o → Small o) ∧
  ∀ B' H' a', Grow [] [] (mnP a.cell B) (mnP a.cell H) B' H' → StAt mg (Fresh (CS a.cell B H)) a' (F.post y) B' v → Q (F.res y) H'
def intE (l : List Int) : List Ent := l.map fun z => .dat TL.rI z
theorem StAt.weak {mg : Str → Option Value} {P P' : Addr → Prop} {a : AD} {s : SS} {B : Hp} {v : V} (h : StAt mg P a s B v) (k : ∀ q, a.cell q → P' q) : StAt mg P' a s B v := ⟨h.pv, h.ob, h.ap, k, h.tb⟩
theorem start_S {mg : Str → Option Value} {B H : Hp} {v : V} {a : AD} {s : SS} {zs : List Int} (h : StAt mg (fun _ => True) a s B v) (kn : Kn B H) (sm : ∀ b o, H b = some o → Small o) : Ok (CS a.cell B H) (.dat (rSx mg (Fresh (CS a.cell B H)) v) s :: intE zs) B H ((v :: zs.map V.int).map some) := by
  refine ⟨⟨fun b x e => (mnP_some e).2, kn, fun b o _ e => .inl (mnP_some e).2, fun b o e => ⟨o, (mnP_some e).2, id⟩, fun b o e t => (mnP_off (mnP_some e).1).symm, fun b e => absurd e List.not_mem_nil, fun b e => absurd e List.not_mem_nil, sm⟩, fun b x e => (mnP_some e).2, ?_, fun i e ov hi hs => ?_, fun i j e e' p n hi hj m m' => ?_⟩
  · unfold intE
    rw [List.length_map, List.length_cons, List.length_cons, List.length_map, List.length_map]
  · cases i with
    | zero =>
      cases hi; cases hs
      exact ⟨v, rfl, rfl, a, h.weak fun q hq => ⟨mnP_on hq, mnP_on hq, mnP_on hq⟩⟩
    | succ i =>
      have hi : (intE zs)[i]? = some e := hi
      have hs : ((zs.map V.int).map some)[i]? = some ov := hs
      unfold intE at hi
      rw [List.getElem?_map] at hi
      rw [List.getElem?_map, List.getElem?_map] at hs
      cases ez : zs[i]? with
      | none => rw [ez] at hi; cases hi
      | some z =>
        rw [ez] at hi hs
        cases hi; cases hs
        exact ⟨_, rfl, rfl⟩
  · have nm : ∀ {k : Nat} {e : Ent}, (Ent.dat (rSx mg (Fresh (CS a.cell B H)) v) s :: intE zs)[k]? = some e → e.mine = false := fun {k e} hk => by
      cases k with
      | zero => cases hk; rfl
      | succ k =>
        have hk : (intE zs)[k]? = some e := hk
        unfold intE at hk
        rw [List.getElem?_map] at hk
        cases ez : zs[k]? with
        | none => rw [ez] at hk; cases hk
        | some z => rw [ez] at hk; cases hk; rfl
    rw [nm hi] at m; cases m
section
variable {P : Program} {w : World} {K : PySem.W.Frag} {mg : Str → Option Value} {base : Heap}
theorem fs_okS {κ : Type} {F : MS κ} {x qual : Str} {st : Stmt} {f : Addr} {fd : FuncData} {N ps : List Str} {k : Nat} (Fn : Fun K x qual st f fd) (S : FnScope N ps (defScope st)) (hl : ∀ y, (F.args y).length + 1 = ps.length)
    (body : ∀ (cdv : Value) (A : Around) (outer : List Env) (s : Shared) (H : Hp) (E : XK) (y : κ) (v : V) (C : C0) (D : Ends), C.lk = [] → Room k (A.deeper (envOfC qual (defScope st) s.heap.objs.size f cdv)) →
      (∀ G r, G[0]? = some (.dat (rSx mg (Fresh C) v) (F.post y)) → (∀ C' B H v, EntOk C' B H r (some v) → v = F.res y) → RetOk C D G r) →
      (∀ G, G[0]? = some (.dat (rSx mg (Fresh C) v) (F.post y)) → F.res y = .non → ∀ B' H' σ', Ok C G B' H' σ' → D.nx σ' H') →
      GS (cxOf CX0 P w K mg base N qual (defScope st) f cdv A outer s H E).nox C (.dat (rSx mg (Fresh C) v) (F.st y) :: intE (F.args y) ++ List.replicate (N.length - ps.length) .any) (defBody st) D) : FnOk P w K mg base CX0 (k + 1) f fd ps (F.sp mg) := by
  refine Fn.ok S (fun vs H Q E h => ?_) (fun cdv A outer s H vs Q E hr h => ?_)
  · obtain ⟨y, B, v, a, rfl, _⟩ := h
    rw [List.length_cons, List.length_map, hl]
  · obtain ⟨y, B, v, a, rfl, h1, h2, h3, q⟩ := h
    refine ⟨_, pss_w _, ?_⟩
    have hlen : (v :: (F.args y).map V.int).length = ps.length := by rw [List.length_cons, List.length_map, hl]
    rw [show L2.start N (v :: (F.args y).map V.int) = (v :: (F.args y).map V.int).map some ++ List.replicate (N.length - ps.length) none from by rw [L2.start, hlen]]
    refine body cdv A outer s H E y v (CS a.cell B H) _ rfl hr (fun G r hG hv u B' H' σ' O' hu _ => ?_) (fun G hG hn B' H' σ' O' => ?_) B H _ ((start_S h1 h2 h3).start _)
    · have e : u = F.res y := hv _ B' H' u hu
      subst e
      obtain ⟨ov, hs, v0, rfl, e0, a', h'⟩ := O'.slot hG
      subst e0
      exact q B' H' a' O'.g h'
    · obtain ⟨ov, hs, v0, rfl, e0, a', h'⟩ := O'.slot hG
      subst e0
      have := q B' H' a' O'.g h'
      rw [hn] at this
      exact this
end
section
variable {X : Cx} {C : C0} {G G' G0 G1 G2 : List Ent} {α β κ ι : Type} {r : Rp α} {e o ex b b2 it : Expr} {es : List Expr} {rest : List Stmt} {body : Stmt} {D : Ends} {te : TE} {x y m : Str} {i j k : Nat} {p p2 pos pos' apos cpos spos spos2 tp : Pos} {P : Addr → Prop} {a : AD} {s : SS} {st : Stmt} {R : List Ent → Prop} {v : V} {en : Ent}
theorem Ok.re {B H : Hp} {σ : L2.St} {γ : Type} {r : Rp β} {r' : Rp γ} {z : β} {z' : γ} (O : Ok C G B H σ) (h : G[i]? = some (.dat r z)) (k : ∀ u, r.rel B u z → r'.rel B u z') : Ok C (G.set i (.dat r' z')) B H σ := by
  obtain ⟨ov, hs, u, rfl, hu⟩ := O.slot h
  exact (O.drop (i := i)).tell (lt_get h) hs (k u hu)
theorem gs_open {sts : List Stmt} (i : Nat) (h : G[i]? = some (.dat (rSx X.mg P v) s)) (k : ∀ a : AD, v = .ref a.p → a.Apart → GS X C (G.set i (.dat (rSt X.mg P a) s)) sts D) : GS X C G sts D := fun B H σ O => by
  obtain ⟨ov, hs, u, rfl, e, a, hu⟩ := O.slot h
  subst e
  exact k a hu.pv hu.ap B H σ ((O.drop (i := i)).tell (lt_get h) hs hu)
theorem gs_close {sts : List Stmt} (i : Nat) (h : G[i]? = some (.dat (rSt X.mg P a) s)) (e : v = .ref a.p) (k : GS X C (G.set i (.dat (rSx X.mg P v) s)) sts D) : GS X C G sts D := fun B H σ O => k B H σ (O.re h fun u hu => ⟨hu.pv.trans e.symm, a, hu⟩)
structure MCal (P : Program) (w : World) (K : PySem.W.Frag) (mg : Str → Option Value) (base : Heap) (m : Str) (ps : List Str) (sp : Sp) (k : Nat) : Prop where
  ex : ∃ (CA f : Addr) (fd : FuncData), mg "Stepper" = some (.ref CA) ∧ Cls K CA ∧ Meth K CA m f ∧ FnOk P w K mg base CX0 k f fd ps sp ∧ Binds K fd ps []
theorem args_int {B : Hp} {σ : L2.St} : ∀ {zs : List Int} {vs : List V}, ArgsOk B σ (zs.map (Arg.d TL.rI)) vs → vs = zs.map V.int
  | [], _, .nil => rfl
  | z :: zs, _, .cons h t => by
    have h : _ = V.int z := h
    rw [h, args_int t]; rfl
theorem StAt.lk {mg : Str → Option Value} {B : Hp} (h : StAt mg P a s B v) {CA : Addr} (hm : mg "Stepper" = some (.ref CA)) : B a.p = some (.ins CA a.dx (a.flds s.n s.m)) := by
  obtain ⟨CB, k1, k2⟩ := h.ob
  rw [hm] at k1; cases k1
  exact k2
theorem Ok.minusP {B H B' H' : Hp} {σ : L2.St} {S : Addr → Prop} (O : Ok C G B H σ) (fm : FirmG C.B1 G) (hF : ∀ q, S q → Fresh C q) (hB : ∀ q, S q → ∃ o, B q = some o ∧ isTup o = false) (hlk : C.lk = []) (g : Grow [] [] (mnP S B) (mnP S H) B' H') : Ok C G B' H' σ := by
  have o0 : ∀ {b x}, C.B0 b = some x → ¬ S b := fun {b x} e z => by rw [(hF b z).2.1] at e; cases e
  have oH : ∀ {b x}, C.H0 b = some x → ¬ S b := fun {b x} e z => by rw [(hF b z).2.2] at e; cases e
  have o1 : ∀ {b x}, C.B1 b = some x → ¬ S b := fun {b x} e z => by rw [(hF b z).1] at e; cases e
  have gm : Grow C.ms C.lk C.B0 C.H0 (mnP S B) (mnP S H) := by
    refine ⟨fun b x e => by rw [mnP_off (o0 e)]; exact O.g.bb b x e, fun a u e => ?_, fun b o nb e => ?_, fun b o e => ?_, fun b o e t => ?_, fun b e => ?_, fun b e => ?_, fun b o e => O.g.sm b o (mnP_some e).2⟩
    · obtain ⟨n, e⟩ := mnP_some e
      rw [mnP_off n]; exact O.g.kn a u e
    · rw [mnP_off (oH e), mnP_off (oH e)]; exact O.g.hh b o nb e
    · rw [mnP_off (oH e)]; exact O.g.mm b o e
    · rw [mnP_off (oH e)]; exact O.g.nw b o e t
    · rw [hlk] at e; cases e
    · obtain ⟨k1, k2, k3⟩ := O.g.ml b e
      have n : ¬ S b := fun z => k1 (hF b z).2.2
      rw [mnP_off n, mnP_off n]; exact ⟨k1, k2, k3⟩
  refine ⟨gm.trans g fun _ h => absurd h List.not_mem_nil, fun b x e => g.bb b x (by rw [mnP_off (o1 e)]; exact O.h1 b x e), O.len, fun i e ov hi hs => ?_, O.sep⟩
  refine fm.at (fun b x e => g.bb b x (by rw [mnP_off (o1 e)]; exact O.h1 b x e)) (fun b xs e => g.bb b _ ?_) (fun b o e n t => ?_) hi (O.ent i e ov hi hs)
  · rw [mnP_off]
    · exact e
    · intro z
      obtain ⟨o, k1, k2⟩ := hB b z
      rw [e] at k1; cases k1; cases k2
  · have nL : ¬ S b := fun z => by
      obtain ⟨o, k1, _⟩ := hB b z
      rw [n] at k1; cases k1
    have e' : mnP S H b = some o := by rw [mnP_off nL]; exact e
    have nw := g.nw b o e' t
    rw [mnP_off nL, n] at nw
    refine ⟨?_, nw⟩
    rcases g.hh b o List.not_mem_nil e' with z | ⟨_, z, _⟩
    · exact z
    · rw [nw] at z; cases z
theorem StAt.cells {mg : Str → Option Value} {B : Hp} (h : StAt mg P a s B v) (q : Addr) (hq : a.cell q) : ∃ o, B q = some o ∧ isTup o = false := by
  rcases hq with ⟨f, e⟩ | ⟨f, e⟩
  · rw [e]; exact ⟨_, (h.tb f).l, rfl⟩
  · obtain ⟨ii, hi⟩ := List.mem_iff_getElem?.mp e
    have : ii < (s.tb f).length := by rw [← (h.tb f).n]; exact lt_get hi
    exact ⟨_, (h.tb f).r ii q _ hi (List.getElem?_eq_getElem this), rfl⟩
theorem st_after {F : MS κ} {y : κ} {B H B' H' : Hp} {σ : L2.St} {a' : AD} (O : Ok C G B H σ) (hlk : C.lk = []) (hP : ∀ q, P q ↔ Fresh C q) (h0 : G[i]? = some (.dat (rSx X.mg P v) s)) (fm : FirmG C.B1 (G.set i .any)) (hst : StAt X.mg P a s B v) (g : Grow [] [] (mnP a.cell B) (mnP a.cell H) B' H') (h' : StAt X.mg (Fresh (CS a.cell B H)) a' (F.post y) B' v) :
    Ok C (G.set i (.dat (rSx X.mg P v) (F.post y))) B' H' σ := by
  obtain ⟨ov, hs, u, rfl, e, _⟩ := O.slot h0
  subst e
  have hF : ∀ q, a.cell q → Fresh C q := fun q hq => (hP q).mp (hst.fr q hq)
  have O2 := (O.drop (i := i)).minusP fm hF hst.cells hlk g
  refine O2.tell (lt_get h0) hs ⟨rfl, a', h'.weak fun q hq => (hP q).mpr ?_⟩
  obtain ⟨k1, k2, k3⟩ := h'.fr q hq
  by_cases c : a.cell q
  · exact hF q c
  · have k2 : mnP a.cell B q = none := k2
    have k3 : mnP a.cell H q = none := k3
    rw [mnP_off c] at k2 k3
    refine ⟨?_, ?_, O.g.old k3⟩
    · cases z : C.B1 q with
      | none => rfl
      | some u => have := O.h1 _ _ z; rw [k2] at this; cases this
    · cases z : C.B0 q with
      | none => rfl
      | some u => have := O.g.bb _ _ z; rw [k2] at this; cases this
theorem gs_stCall {F : MS κ} {ps : List Str} {pl : Sem Bool} (i : Nat) (c : MCal X.prog X.w X.K X.mg X.base m ps (F.sp X.mg) k) (hr : Room k X.A) (yy : κ) (hlk : C.lk = []) (hP : ∀ q, P q ↔ Fresh C q) (hs : F.st yy = s) (ha : XA X C (e :: es) G G ((F.args yy).map (Arg.d TL.rI)))
    (h0 : G[i]? = some (.dat (rSx X.mg P v) s)) (fm : FirmG C.B1 (G.set i .any)) (kk : GS X C (G.set i (.dat (rSx X.mg P v) (F.post yy))) rest D)
    (hno : ∀ (a : AD) (n z : Int), (a.flds n z).lookup m = none := by intro _ _ _; rfl)
    (hN : X.N[i]? = some x := by rfl) (hv : Vis X.env.scope x := by first | exact Or.inl rfl | exact Or.inr (Or.inl rfl) | exact Or.inr (Or.inr rfl)) (hd : (x == ("__debug__" : Str)) = false := by decide) (hcd : (x == ("__classdict__" : Str)) = false := by decide)
    (hst : starEach (e :: es) X.env = (false, eval e X.env) :: starEach es X.env := by rfl) (hpl : (backTo cpos (starEach es X.env)).any (·.1) = false := by rfl)
    (ht : eval (.Call (.Attribute (.Name x p) m apos) (e :: es) [] cpos) X.env = (do
      let ov ← eval (.Name x p) X.env
      standAt apos.atName
      let (f, first) ← holding [ov] (getMethod ov m pl)
      callWith cpos f first (backTo cpos (starEach (e :: es) X.env)) (backToKw cpos (keywordEach [] X.env))) := by rfl)
    (hsw : swapsWith (.Call (.Attribute (.Name x p) m apos) (e :: es) [] cpos) none pos.line X.env = pure false := by rfl) :
    GS X C G (.Expr (.Call (.Attribute (.Name x p) m apos) (e :: es) [] cpos) pos :: rest) D := fun B H σ O => by
  obtain ⟨CA, f, fd, c1, c2, c3, c4, c5⟩ := c.ex
  refine w_ps (ps_expr (pe_meth (dvs := []) (pe_var hN hv hd hcd) c2 c3 c4 hr c5 .nil pass0 (pa_w _) hst hpl ht) hsw) ?_
  obtain ⟨ov, hs0, u, rfl, e0, a, hu⟩ := O.slot h0
  subst e0
  refine ⟨u, hs0, a.p, a.dx, _, hu.pv, O.g.kn.x (hu.lk c1) rfl, hno a _ _, ha B H σ O _ fun vs B1 H1 O1 s1 hvs => ?_⟩
  have hu1 := hu.mono s1
  refine ⟨yy, B1, u, a, by rw [List.append_nil, args_int hvs], by rw [hs]; exact hu1.weak fun _ _ => trivial, O1.g.kn, O1.g.sm, fun B' H' a' g h' => ?_⟩
  exact kk B' H' σ (st_after (X := X) O1 hlk hP h0 fm hu1 g h')
theorem x_stSelf (h : XE X C e G G1 (.dat (rSx X.mg P v) s)) : XE X C e G G1 (.dat (rSr X.mg) s) := Ev.conv h fun _ _ h => by
  obtain ⟨_, a, h⟩ := h
  exact ⟨a, h.weak fun _ _ => trivial⟩
theorem x_meth {F : FS ι} {ps : List Str} {pl : Sem Bool} {as : List Arg} (c : MCal X.prog X.w X.K X.mg X.base m ps F.sp k) (hr : Room k X.A) (yy : ι) (ho : XE X C o G G1 (.dat (rSr X.mg) s)) (ha : XA X C (e :: es) G1 G2 as) (fit : FitD (.d (rSr X.mg) s :: as) (F.args yy)) (hres : F.res yy = en) (hb : F.bad yy = none := by rfl)
    (hno : ∀ (a : AD) (n z : Int), (a.flds n z).lookup m = none := by intro _ _ _; rfl)
    (hst : starEach (e :: es) X.env = (false, eval e X.env) :: starEach es X.env := by rfl) (hpl : (backTo cpos (starEach es X.env)).any (·.1) = false := by rfl)
    (ht : eval (.Call (.Attribute o m apos) (e :: es) [] cpos) X.env = (do
      let ov ← eval o X.env
      standAt apos.atName
      let (f, first) ← holding [ov] (getMethod ov m pl)
      callWith cpos f first (backTo cpos (starEach (e :: es) X.env)) (backToKw cpos (keywordEach [] X.env))) := by rfl) :
    XE X C (.Call (.Attribute o m apos) (e :: es) [] cpos) G G2 en := by
  obtain ⟨CA, f, fd, c1, c2, c3, c4, c5⟩ := c.ex
  have ea : EvA C (fun σ H Q => wE X o σ H fun x H1 => ∃ a dx fs, x = .ref a ∧ H1 a = some (.ins CA dx fs) ∧ fs.lookup m = none ∧ wA X (e :: es) σ H1 fun vs H2 => Q (x :: vs) H2) G G2 (.d (rSr X.mg) s :: as) := fun B H σ O Q q => ho.go O fun x B1 H1 O1 s1 hx => by
    obtain ⟨a, hu⟩ := hx
    refine ⟨a.p, a.dx, _, hu.pv, O1.g.kn.x (hu.lk c1) rfl, hno a _ _, ha B1 H1 σ O1 _ fun vs B2 H2 O2 s2 hvs => ?_⟩
    exact q _ B2 H2 O2 (s1.trans s2) (.cons ((rSr X.mg).mono s2 ⟨a, hu⟩) hvs)
  exact x_of (pe_meth (dvs := []) (pe_w o) c2 c3 c4 hr c5 .nil pass0 (pa_w _) hst hpl ht) (ev_call yy ea fit hres hb)
end
end TL

namespace TL
open PySem PySem.Spec PyProof.Rows L2
def CDivX (i j : Int) : Prop := j ≠ 0 ∧ Builtin.divisionGoesByPylong i j = false
section
variable {X : Cx} {C : C0} {G G1 G2 : List Ent} {a b : Expr} {pos : Pos}
theorem op_fdivX : OpR X (binaryOp .FloorDiv) (L2.rI CDivX fun i j => .int (i.fdiv j)) := opI fun _ _ _ _ _ _ _ hc q => floordiv_int hc.1 q (.inl hc.2)
theorem x_fdivX {i j : Int} (ha : XE X C a G G1 (.dat TL.rI i)) (hb : XE X C b G1 G2 (.dat TL.rI j)) (hc : CDivX i j) : XE X C (.BinOp a .FloorDiv b pos) G G2 (.dat TL.rI (i.fdiv j)) := x_of (pe_op op_fdivX (pe_w a) (pe_w b)) (ev_I ha hb hc fun _ => rfl)
theorem x_fmodX {i j : Int} (ha : XE X C a G G1 (.dat TL.rI i)) (hb : XE X C b G1 G2 (.dat TL.rI j)) (hc : j ≠ 0) : XE X C (.BinOp a .Mod b pos) G G2 (.dat TL.rI (i.fmod j)) := x_of (pe_op op_modN (pe_w a) (pe_w b)) (ev_I ha hb hc fun _ => rfl)
theorem x_abs {i : Int} (hm : X.mg "abs" = none) (h : XE X C a G G1 (.dat TL.rI i)) {p : Pos} (hg : Gl X "abs" := by rfl) (he : starEach [a] X.env = (false, eval a X.env) :: starEach [] X.env := by rfl) : XE X C (.Call (.Name "abs" p) [a] [] pos) G G1 (.dat TL.rI ((Int.natAbs i : Nat) : Int)) :=
  x_of (pe_callB call_abs hg hm (by decide +kernel) (pa_cons (pe_w a) pa_nil he) (he := he)) (ev_cb1 (s := TL.rI) h fun B H σ x O hx Q q => by
    have hx : x = .int i := hx
    subst hx
    refine ⟨i, rfl, q _ _ _ O (Same.refl _) ?_⟩
    show V.int _ = V.int _
    congr 1
    split <;> omega)
end
section
variable {X : Cx} {C : C0} {G G1 : List Ent} {e : Expr} {pos : Pos} {s : SS}
theorem x_srTab (f : Fd) (c : StCls X.K X.mg) (h : XE X C e G G1 (.dat (rSr X.mg) s)) (hb : attributeBase e f.nm X.env (eval e X.env) = eval e X.env := by rfl) : XE X C (.Attribute e f.nm pos) G G1 (.dat (rL (rL TL.rI)) (s.tb f)) :=
  x_of (pe_fld (pe_w e) hb) (Ev.mk fun B H σ O Q q => h.go O fun v B1 H1 O1 s1 hv => by
    obtain ⟨a, hv⟩ := hv
    obtain ⟨CA, c1, c2, c3, c4, c5, _⟩ := c.at hv
    exact ⟨a.p, CA, a.dx, _, _, hv.pv, O1.g.kn.x c5 rfl, c1, c2 f, flds_nm f, q _ _ _ O1 s1 (tab_rel (hv.tb f))⟩)
theorem x_srRows (c : StCls X.K X.mg) (h : XE X C e G G1 (.dat (rSr X.mg) s)) (hb : attributeBase e "rows" X.env (eval e X.env) = eval e X.env := by rfl) : XE X C (.Attribute e "rows" pos) G G1 (.dat TL.rI s.n) :=
  x_of (pe_fld (pe_w e) hb) (Ev.mk fun B H σ O Q q => h.go O fun v B1 H1 O1 s1 hv => by
    obtain ⟨a, hv⟩ := hv
    obtain ⟨CA, c1, c2, c3, c4, c5, _⟩ := c.at hv
    exact ⟨a.p, CA, a.dx, _, _, hv.pv, O1.g.kn.x c5 rfl, c1, c3, rfl, q _ _ _ O1 s1 rfl⟩)
theorem x_srCols (c : StCls X.K X.mg) (h : XE X C e G G1 (.dat (rSr X.mg) s)) (hb : attributeBase e "columns" X.env (eval e X.env) = eval e X.env := by rfl) : XE X C (.Attribute e "columns" pos) G G1 (.dat TL.rI s.m) :=
  x_of (pe_fld (pe_w e) hb) (Ev.mk fun B H σ O Q q => h.go O fun v B1 H1 O1 s1 hv => by
    obtain ⟨a, hv⟩ := hv
    obtain ⟨CA, c1, c2, c3, c4, c5, _⟩ := c.at hv
    exact ⟨a.p, CA, a.dx, _, _, hv.pv, O1.g.kn.x c5 rfl, c1, c4, rfl, q _ _ _ O1 s1 rfl⟩)
end
structure MDef (K : PySem.W.Frag) (mg : Str → Option Value) (m q : Str) (st : Stmt) (ps : List Str) : Prop where
  ex : ∃ (CA f : Addr) (fd : FuncData), mg "Stepper" = some (.ref CA) ∧ Cls K CA ∧ Meth K CA m f ∧ Fun K m q st f fd ∧ Binds K fd ps []
def rAdd (t : Tbl) (one often other : Int) : Tbl := setA t other (List.map (fun (z : Int × Int) => z.2 + often * z.1) (List.zip (getA t one) (getA t other)))
def rSub (t : Tbl) (one often other : Int) : Tbl := setA t one (List.map (fun (z : Int × Int) => z.1 - often * z.2) (List.zip (getA t one) (getA t other)))
def cAdd (one often other : Int) (row : List Int) : List Int := setA row other (getA row other + often * getA row one)
def cSub (one often other : Int) (row : List Int) : List Int := setA row one (getA row one - often * getA row other)
def swA {α : Type} [Inhabited α] (one other : Int) (l : List α) : List α := setA (setA l one (getA l other)) other (getA l one)
def rNeg (t : Tbl) (one : Int) : Tbl := setA t one (List.map (fun z => -z) (getA t one))
def cNeg (one : Int) (row : List Int) : List Int := setA row one (-(getA row one))
def m_row_to (s : SS) (one often other : Int) : SS := ((s.put .T (rAdd (s.tb .T) one often other)).put .L (rAdd (s.tb .L) one often other)).put .Lb ((s.tb .Lb).map (cSub one often other))
def m_column_to (s : SS) (one often other : Int) : SS := ((s.put .T ((s.tb .T).map (cAdd one often other))).put .R ((s.tb .R).map (cAdd one often other))).put .Rb (rSub (s.tb .Rb) one often other)
def m_rows_changed (s : SS) (one other : Int) : SS := ((s.put .T (swA one other (s.tb .T))).put .L (swA one other (s.tb .L))).put .Lb ((s.tb .Lb).map (swA one other))
def m_columns_changed (s : SS) (one other : Int) : SS := ((s.put .T ((s.tb .T).map (swA one other))).put .R ((s.tb .R).map (swA one other))).put .Rb (swA one other (s.tb .Rb))
def m_row_contrary (s : SS) (one : Int) : SS := ((s.put .T (rNeg (s.tb .T) one)).put .L (rNeg (s.tb .L) one)).put .Lb ((s.tb .Lb).map (cNeg one))
def Rect (t : Tbl) (n m : Int) : Prop := (t.length : Int) = n ∧ ∀ row ∈ t, (row.length : Int) = m
structure Shape (s : SS) : Prop where
  T : Rect (s.tb .T) s.n s.m
  L : Rect (s.tb .L) s.n s.n
  Lb : Rect (s.tb .Lb) s.n s.n
  R : Rect (s.tb .R) s.m s.m
  Rb : Rect (s.tb .Rb) s.m s.m
def Sm (z : Int) : Prop := ∃ n : Nat, n ≤ 67108864 ∧ z.natAbs < 2 ^ n
def SmT (t : Tbl) : Prop := ∀ row ∈ t, ∀ z ∈ row, Sm z
theorem sm_mul {i j : Int} (h1 : Sm i) (h2 : Sm j) : CMulX i j := by
  obtain ⟨a, a1, a2⟩ := h1
  obtain ⟨b, b1, b2⟩ := h2
  exact mulx_ok a2 b2 (by omega)
def smAll (s : SS) : Prop := ∀ f, SmT (s.tb f)
theorem atI_toNat {α : Type} {l : List α} {i : Int} {x : α} (h0 : 0 ≤ i) (h : l[i.toNat]? = some x) : atI l i = some x := by
  obtain ⟨j, rfl⟩ := Int.eq_ofNat_of_zero_le h0
  exact atI_nat h
theorem Rect.get {t : Tbl} {n m k : Int} (h : Rect t n m) (h0 : 0 ≤ k) (h1 : k < n) : getA t k ∈ t ∧ ((getA t k).length : Int) = m := by
  have hm := getA_mem (l := t) (i := k) h0 (by have := h.1; omega)
  exact ⟨hm, h.2 _ hm⟩
theorem Rect.at {t : Tbl} {n m k : Int} (h : Rect t n m) (h0 : 0 ≤ k) (h1 : k < n) : t[k.toNat]? = some (getA t k) := by
  obtain ⟨j, rfl⟩ := Int.eq_ofNat_of_zero_le h0
  have hj : j < t.length := by have := h.1; omega
  rw [getA_nat hj]
  exact List.getElem?_eq_getElem hj
theorem refs_at {mg : Str → Option Value} {P : Addr → Prop} {a : AD} {s : SS} {B : Hp} {v : V} (h : StAt mg P a s B v) {f : Fd} {n m k : Int} (hr : Rect (s.tb f) n m) (h0 : 0 ≤ k) (h1 : k < n) : (a.rows f)[k.toNat]? = some (getA (a.rows f) k) := by
  obtain ⟨j, rfl⟩ := Int.eq_ofNat_of_zero_le h0
  have hj : j < (a.rows f).length := by have := hr.1; have := (h.tb f).n; omega
  rw [getA_nat hj]
  exact List.getElem?_eq_getElem hj
section
variable {X : Cx} {C : C0} {G G' G0 G1 G2 : List Ent} {e ex b b2 it e1 e2 : Expr} {rest : List Stmt} {body st : Stmt} {D : Ends} {x y : Str} {i j kk : Nat} {p p2 pos pos' tp tpos : Pos} {P : Addr → Prop} {a : AD} {s : SS} {R R' : List Ent → Prop} {v : V}
theorem stT_mono (h : StT X C G st R) (k : ∀ G', R G' → R' G') : StT X C G st R' := fun B H σ O rest D q => h B H σ O rest D fun G' B' H' σ' r ts O' => q G' B' H' σ' (k G' r) ts O'
theorem stT_two2 (f g : Fd) (U : Tbl → Tbl) (Gs : AD → SS → List Ent) (j : Nat) (hfg : f ≠ g) (he : XE X C (.Tuple [e1, e2] kk tpos) (Gs a s) (Gs a s) (.dat (TL.rP rA rA) (a.at_ f, a.at_ g)))
    (hb : ∀ (a' : AD) (s' : SS) (h : Fd), a'.at_ = a.at_ → a'.p = a.p → (h = f ∨ h = g) → s'.tb h = s.tb h → s'.n = s.n → s'.m = s.m → StT X C ((Gs a' s').set j (.dat rA (a'.at_ h))) body (fun G' => ∃ a'' : AD, a''.at_ = a'.at_ ∧ a''.p = a'.p ∧ Le G' (Gs a'' (s'.put h (U (s'.tb h))))))
    (hN : X.N.Nodup) (hj : X.N[j]? = some y) (hx : Loc X.env.scope y) (hp : PassesOwn (model X.prog X.w) X.A X.env X.xe := by exact PassesOwn.never) (hc : X.calm = true := by rfl)
    (hf : X.fn y = true ∨ X.env.scope.names.lookup y = some .local := by first | exact .inl rfl | exact .inr rfl) (hfs : ∀ x, foldedSetIterable (.Tuple [e1, e2] kk tpos) X.env x = pure x := by intro _; rfl) :
    StT X C (Gs a s) (.For (.Name y tp) (.Tuple [e1, e2] kk tpos) [body] [] pos) (fun G' => ∃ a'' : AD, a''.at_ = a.at_ ∧ a''.p = a.p ∧ G' = Gs a'' ((s.put f (U (s.tb f))).put g (U (s.tb g)))) := fun B H σ O rest D k =>
  stT_two (R1 := fun G' => ∃ a'' : AD, a''.at_ = a.at_ ∧ a''.p = a.p ∧ Le G' (Gs a'' (s.put f (U (s.tb f))))) (R2 := fun G' => ∃ a'' : AD, a''.at_ = a.at_ ∧ a''.p = a.p ∧ Le G' (Gs a'' ((s.put f (U (s.tb f))).put g (U (s.tb g))))) j he (hb a s f rfl rfl (.inl rfl) rfl rfl rfl)
    (fun G' hG => by
      obtain ⟨a1, h1, h2, h3⟩ := hG
      have h := stT_mono (R' := fun G' => ∃ a'' : AD, a''.at_ = a.at_ ∧ a''.p = a.p ∧ Le G' (Gs a'' ((s.put f (U (s.tb f))).put g (U (s.tb g))))) (hb a1 (s.put f (U (s.tb f))) g h1 h2 (.inr rfl) (SS.put_ne (Ne.symm hfg)) rfl rfl) fun G' ⟨a2, k1, k2, k3⟩ => ⟨a2, k1.trans h1, k2.trans h2, by
        rw [SS.put_ne (Ne.symm hfg)] at k3; exact k3⟩
      rw [show a1.at_ g = a.at_ g from congrFun h1 g] at h
      refine fun B H σ O => h B H σ (O.le ?_)
      have : ∀ {A B : List Ent} {e : Ent} (j : Nat), Le A B → Le (A.set j e) (B.set j e) := by
        intro A B e j l
        induction l generalizing j with
        | nil => exact .nil
        | keep l ih => cases j with
          | zero => exact .keep l
          | succ j => exact .keep (ih j)
        | drop l ih => cases j with
          | zero => exact .keep l
          | succ j => exact .drop (ih j)
      exact this j h3)
    hN hj hx hp hc hf hfs B H σ O rest D fun G' B' H' σ' hR ts O' => by
      obtain ⟨a2, k1, k2, k3⟩ := hR
      exact k _ B' H' σ' ⟨a2, k1, k2, rfl⟩ ts (O'.le k3)
theorem stT_swapA {f : Fd} {nr mc n m : Int} {kk2 : Nat} {tt spos spos2 : Pos} (i j : Nat) (hij : i ≠ j) (hP : ∀ q, P q ↔ Fresh C q) (he : ∀ q1 q2, (a.rows f)[n.toNat]? = some q1 → (a.rows f)[m.toNat]? = some q2 → XE X C e G G (.dat (TL.rP rA rA) (q2, q1))) (hb : XE X C b (G.set i .any) (G.set i .any) (.dat TL.rI n)) (hb2 : XE X C b2 (G.set i .any) (G.set i .any) (.dat TL.rI m))
    (h1 : G[i]? = some (.dat (rSt X.mg P a) s)) (hj : G[j]? = some (.dat rA (a.at_ f))) (fm : FirmG C.B1 (G.set i .any))
    (hr : Rect (s.tb f) nr mc) (hn : 0 ≤ n) (hm : 0 ≤ m) (hn2 : n < nr) (hm2 : m < nr)
    (hN : X.N[j]? = some x := by rfl) (hv : Vis X.env.scope x := by first | exact Or.inl rfl | exact Or.inr (Or.inl rfl) | exact Or.inr (Or.inr rfl)) (hd : (x == ("__debug__" : Str)) = false := by decide) (hcd : (x == ("__classdict__" : Str)) = false := by decide) (hc : X.calm = true := by rfl)
    (hs : swapsWithSole [.Tuple [.Subscript (.Name x p) b spos, .Subscript (.Name x p2) b2 spos2] kk2 tt] e pos.line X.env = pure false := by rfl) (hw : swappedStores [.Tuple [.Subscript (.Name x p) b spos, .Subscript (.Name x p2) b2 spos2] kk2 tt] e X.env = pure none := by rfl)
    (ha : (assignEach [.Tuple [.Subscript (.Name x p) b spos, .Subscript (.Name x p2) b2 spos2] kk2 tt] X.env).map (·.2) = [assign (.Tuple [.Subscript (.Name x p) b spos, .Subscript (.Name x p2) b2 spos2] kk2 tt) X.env] := by rfl)
    (ht : (assignEach [.Subscript (.Name x p) b spos, .Subscript (.Name x p2) b2 spos2] X.env).length = 2 := by rfl) (hst : (assignEach [.Subscript (.Name x p) b spos, .Subscript (.Name x p2) b2 spos2] X.env).findIdx? (·.1) = none := by rfl)
    (hs1 : (assignEach [.Subscript (.Name x p) b spos, .Subscript (.Name x p2) b2 spos2] X.env).map (·.2) = assign (.Subscript (.Name x p) b spos) X.env :: (assignEach [.Subscript (.Name x p2) b2 spos2] X.env).map (·.2) := by rfl) (hs2 : (assignEach [.Subscript (.Name x p2) b2 spos2] X.env).map (·.2) = assign (.Subscript (.Name x p2) b2 spos2) X.env :: (assignEach [] X.env).map (·.2) := by rfl)
    (hsub : ∀ v, assign (.Subscript (.Name x p) b spos) X.env v = (do
      let ov ← holding [v] (eval (.Name x p) X.env)
      let iv ← holding [v, ov] (eval b X.env)
      standAt spos
      holding [v, ov, iv] (setItem ov iv v)
      release [v, ov, iv] []) := by intro _; rfl)
    (hsub2 : ∀ v, assign (.Subscript (.Name x p2) b2 spos2) X.env v = (do
      let ov ← holding [v] (eval (.Name x p2) X.env)
      let iv ← holding [v, ov] (eval b2 X.env)
      standAt spos2
      holding [v, ov, iv] (setItem ov iv v)
      release [v, ov, iv] []) := by intro _; rfl) :
    StT X C G (.Assign [.Tuple [.Subscript (.Name x p) b spos, .Subscript (.Name x p2) b2 spos2] kk2 tt] e pos) (fun G' => ∃ a'' : AD, a''.at_ = a.at_ ∧ a''.p = a.p ∧ G' = G.set i (.dat (rSt X.mg P a'') (s.put f (swA n m (s.tb f))))) := fun B H σ O => by
  obtain ⟨ov, hs0, v0, rfl, hu⟩ := O.slot h1
  have q1 := refs_at hu hr hn hn2
  have q2 := refs_at hu hr hm hm2
  exact stT_mono (stT_swap i j hij hP (he _ _ q1 q2) hb hb2 h1 hj fm hn hm q1 q2 (hr.at hn hn2) (hr.at hm hm2) hN hv hd hcd hc hs hw ha ht hst hs1 hs2 hsub hsub2) (fun G' hG => ⟨a.setR f (swp (a.rows f) n.toNat m.toNat (getA (a.rows f) m) (getA (a.rows f) n)), rfl, rfl, hG⟩) B H σ O
end
end TL

namespace TL
open PySem PySem.Spec PyProof.Rows L2
section
variable {X : Cx} {C : C0} {G G' G0 G1 G2 : List Ent} {e ex a b c it o : Expr} {es : List Expr} {rest body : List Stmt} {D : Ends} {x y m : Str} {p p2 pos pos' tp tpos cpos apos : Pos} {P : Addr → Prop} {s : SS} {v : V} {S ρ κ : Type}
theorem srcR_rng2 {ta : TA} {a n : Int} (h : EvA C ta G G1 [.d TL.rI a, .d TL.rI n]) (h1 : 0 ≤ a ∧ a ≤ 16777216 ∧ -(2 ^ 62) ≤ n ∧ n ≤ 16777216) : SrcR C (iRng2 ta) G G1 (rng2 a n) := fun B H σ O R q => h B H σ O _ fun vs B1 H1 O1 s1 hv => by
  cases hv with
  | cons hv h3 => cases h3 with
    | cons hv2 h3 => cases h3 with
      | nil => exact ⟨a, n, by rw [show _ = V.int a from hv, show _ = V.int n from hv2], by omega, q _ B1 H1 O1 s1 (by rw [rng2, List.length_map, List.length_range]; show (n - a).toNat ≤ 16777216; omega) fun B2 => it_rng⟩
def kr_rng2 {tg : Expr} {n m : Int} (hm : X.mg "range" = none) (h : XA X C [a, b] G G1 [.d TL.rI n, .d TL.rI m]) (h1 : 0 ≤ n ∧ n ≤ 16777216 ∧ -(2 ^ 62) ≤ m ∧ m ≤ 16777216) (hg : Gl X "range" := by rfl)
    (hs : starEach [a, b] X.env = [(false, eval a X.env), (false, eval b X.env)] := by rfl) (hs2 : starEach [b] X.env = [(false, eval b X.env)] := by rfl)
    (fs : ∀ x, foldedSetIterable (.Call (.Name "range" p) [a, b] [] pos) X.env x = pure x := by intro _; rfl) : WkR X C tg (.Call (.Name "range" p) [a, b] [] pos) G G1 (rng2 n m) := ⟨_, pi_range2 hg hm (pa_w _) hs hs2, srcR_rng2 h h1, fs⟩
theorem gs_forRF1 {n : Str} {as : List Int} (j : Nat) (w : WkR X C (.Name n tp) it G G0 as) (Gs : S → List Ent) (s0 : S) (f : S → Int → S) (h0 : Le G0 (Gs s0))
    (hs : ∀ (i : Nat) (v : Int) (z : S), as[i]? = some v → z = (as.take i).foldl f s0 → GS X C ((Gs z).set j (.dat TL.rI v)) body { D with nx := Reach C (Gs (f z v)), ct := Reach C (Gs (f z v)), bk := wSs X rest D })
    (k : GS X C (Gs (as.foldl f s0)) rest D) (hN : X.N.Nodup) (hj : X.N[j]? = some n) (hx : Loc X.env.scope n) (hp : PassesOwn (model X.prog X.w) X.A X.env X.xe := by exact PassesOwn.never) (hc : X.calm = true := by rfl)
    (hf : X.fn n = true ∨ X.env.scope.names.lookup n = some .local := by first | exact .inl rfl | exact .inr rfl) : GS X C G (.For (.Name n tp) it body [] pos :: rest) D := by
  refine gs_forWR hp hc w.pi (pg_name hN hj hx hf) (fun i Gi => Gi = Gs ((as.take i).foldl f s0)) (fun B H σ O R q => w.src B H σ O R fun J B' H' O' s hz hJ => q J B' H' (O'.le h0) s hz hJ) rfl (fun i a Gi e hGi => ?_) (fun Gn hGn => ?_) w.fs
  · subst hGi
    have en : Gs (f ((as.take i).foldl f s0) a) = Gs ((as.take (i + 1)).foldl f s0) := by
      rw [List.take_add_one, e, List.foldl_append]; rfl
    exact ⟨_, tg_name, gs_mono (hs i a _ e rfl) (fun σ H h => ⟨_, en, h⟩) (fun _ _ h => h) (fun σ H h => ⟨_, en, h⟩) fun _ _ h => h⟩
  · rw [List.take_length] at hGn
    subst hGn
    exact k
theorem gs_whileM (n : Nat) (Gs Gt : S → List Ent) (s0 : S) (t : S → Bool) (f : S → ρ ⊕ S) (h0 : Le G (Gs s0)) (hend : ∀ z, whileR n t f s0 = .inr z → t z = false)
    (ht : ∀ (i : Nat) (z : S), i ≤ n → whileR i t f s0 = .inr z → ∀ B H σ, Ok C (Gs z) B H σ → ∀ Q : Bool → Hp → Prop, (∀ B' H', Ok C (Gt z) B' H' σ → Q (t z) H') → wT X c σ H Q)
    (hs : ∀ (i : Nat) (z : S), i < n → whileR i t f s0 = .inr z → t z = true → GS X C (Gt z) body { D with nx := fun σ H => ∃ z', f z = .inr z' ∧ Reach C (Gs z') σ H, ct := fun σ H => ∃ z', f z = .inr z' ∧ Reach C (Gs z') σ H, bk := wSs X rest D })
    (k : ∀ z, whileR n t f s0 = .inr z → GS X C (Gt z) rest D) (hp : PassesOwn (model X.prog X.w) X.A X.env X.xe := by exact PassesOwn.never) : GS X C G (.While c body [] pos :: rest) D := fun B H σ O => by
  refine w_ps (ps_while hp (pt_w c) (pss_w body)) ?_
  refine ⟨fun m σ' H' => ∃ i z, i + m = n ∧ whileR i t f s0 = .inr z ∧ Reach C (Gs z) σ' H', ⟨n, 0, s0, Nat.zero_add _, rfl, B, O.le h0⟩, fun m σ' H' hW => ?_⟩
  obtain ⟨i, z, em, ez, B2, O2⟩ := hW
  refine ht i z (by omega) ez B2 H' σ' O2 _ fun B3 H3 O3 => ?_
  cases q : t z with
  | true =>
    rw [if_pos rfl]
    have hi : i < n := by
      rcases Nat.lt_or_ge i n with y | y
      · exact y
      · have : i = n := by omega
        subst this
        rw [hend z ez] at q; cases q
    refine ⟨fun σ4 H4 => ∃ z', f z = .inr z' ∧ Reach C (Gs z') σ4 H4, fun σ4 H4 h4 => ?_, hs i z hi ez q B3 H3 σ' O3⟩
    obtain ⟨z', e1, h5⟩ := h4
    refine ⟨m - 1, by omega, i + 1, z', by omega, ?_, h5⟩
    rw [whileR_succ t f i s0 z ez, q, if_pos rfl, e1]
  | false =>
    rw [if_neg Bool.false_ne_true]
    exact k z (whileR_stop ez q n (by omega)) B3 H3 σ' O3
theorem test_andM {F : MS κ} {ps : List Str} {pl : Sem Bool} {kk : Nat} {k d : Bool} (i : Nat) (cc : MCal X.prog X.w X.K X.mg X.base m ps (F.sp X.mg) kk) (hr : Room kk X.A) (hlk : C.lk = []) (hP : ∀ q, P q ↔ Fresh C q) (hk : XT X C c G G k) (h0 : G[i]? = some (.dat (rSx X.mg P v) s)) (fm : FirmG C.B1 (G.set i .any))
    (hy : k = true → ∃ yy : κ, F.st yy = s ∧ F.res yy = .bl d ∧ XA X C (e :: es) G G ((F.args yy).map (Arg.d TL.rI)) ∧ G' = G.set i (.dat (rSx X.mg P v) (F.post yy))) (hn : k = false → G' = G)
    (hno : ∀ (a : AD) (n z : Int), (a.flds n z).lookup m = none := by intro _ _ _; rfl)
    (hN : X.N[i]? = some x := by rfl) (hv : Vis X.env.scope x := by first | exact Or.inl rfl | exact Or.inr (Or.inl rfl) | exact Or.inr (Or.inr rfl)) (hd : (x == ("__debug__" : Str)) = false := by decide) (hcd : (x == ("__classdict__" : Str)) = false := by decide)
    (hst : starEach (e :: es) X.env = (false, eval e X.env) :: starEach es X.env := by rfl) (hpl : (backTo cpos (starEach es X.env)).any (·.1) = false := by rfl)
    (ht : eval (.Call (.Attribute (.Name x p) m apos) (e :: es) [] cpos) X.env = (do
      let ov ← eval (.Name x p) X.env
      standAt apos.atName
      let (f, first) ← holding [ov] (getMethod ov m pl)
      callWith cpos f first (backTo cpos (starEach (e :: es) X.env)) (backToKw cpos (keywordEach [] X.env))) := by rfl)
    (he : ∀ whole, isTrue (.Call (.Attribute (.Name x p) m apos) (e :: es) [] cpos) X.env whole = (do let v ← whole; standAt (Expr.Call (.Attribute (.Name x p) m apos) (e :: es) [] cpos).pos; holding [v] (truthy v)) := by intro _; rfl) :
    ∀ B H σ, Ok C G B H σ → ∀ Q : Bool → Hp → Prop, (∀ B' H', Ok C G' B' H' σ → Q (k && d) H') → wT X (.BoolOp .And [c, .Call (.Attribute (.Name x p) m apos) (e :: es) [] cpos] pos) σ H Q := fun B H σ O Q q => by
  obtain ⟨CA, f, fd, c1, c2, c3, c4, c5⟩ := cc.ex
  refine w_pt (PW.pt (pw_and (pt_w c) (pw_and1 (pt_val (pe_meth (dvs := []) (pe_var hN hv hd hcd) c2 c3 c4 hr c5 .nil pass0 (pa_w _) hst hpl ht) he)))) (hk B H σ O _ fun B1 H1 O1 s1 => ?_)
  cases k with
  | false =>
    rw [if_neg Bool.false_ne_true]
    rw [hn rfl] at q
    exact q B1 H1 O1
  | true =>
    rw [if_pos rfl]
    obtain ⟨yy, e1, e2, ha, rfl⟩ := hy rfl
    obtain ⟨ov, hs0, u, rfl, e0, a, hu⟩ := O1.slot h0
    subst e0
    refine ⟨u, hs0, a.p, a.dx, _, hu.pv, O1.g.kn.x (hu.lk c1) rfl, hno a _ _, ha B1 H1 σ O1 _ fun vs B2 H2 O2 s2 hvs => ?_⟩
    have hu2 := hu.mono s2
    refine ⟨yy, B2, u, a, by rw [List.append_nil, args_int hvs], by rw [e1]; exact hu2.weak fun _ _ => trivial, O2.g.kn, O2.g.sm, fun B' H' a' g h' => ?_⟩
    refine ⟨d, e2, ?_⟩
    exact q B' H' (st_after (X := X) O2 hlk hP h0 fm hu2 g h')
end
def at2 (t : Tbl) (i j : Int) : Int := getA (getA t i) j
def clR (step : Int) (s : SS) (row : Int) : SS := if Int.fdiv (at2 (s.tb .T) row step) (at2 (s.tb .T) step step) ≠ 0 then m_row_to s step (-(Int.fdiv (at2 (s.tb .T) row step) (at2 (s.tb .T) step step))) row else s
def clC (step : Int) (s : SS) (col : Int) : SS := if Int.fdiv (at2 (s.tb .T) step col) (at2 (s.tb .T) step step) ≠ 0 then m_column_to s step (-(Int.fdiv (at2 (s.tb .T) step col) (at2 (s.tb .T) step step))) col else s
def m_cleared (s : SS) (step : Int) : SS := (rng2 (step + 1) s.m).foldl (clC step) ((rng2 (step + 1) s.n).foldl (clR step) s)
structure OkR (s : SS) (step row : Int) : Prop where
  sh : Shape s
  sm : smAll s
  nz : at2 (s.tb .T) step step ≠ 0
  dv : CDivX (at2 (s.tb .T) row step) (at2 (s.tb .T) step step)
  so : Sm (Int.fdiv (at2 (s.tb .T) row step) (at2 (s.tb .T) step step))
structure OkC (s : SS) (step col : Int) : Prop where
  sh : Shape s
  sm : smAll s
  nz : at2 (s.tb .T) step step ≠ 0
  dv : CDivX (at2 (s.tb .T) step col) (at2 (s.tb .T) step step)
  so : Sm (Int.fdiv (at2 (s.tb .T) step col) (at2 (s.tb .T) step step))
theorem sm_neg {z : Int} (h : Sm z) : Sm (-z) := by
  obtain ⟨n, h1, h2⟩ := h
  exact ⟨n, h1, by rw [Int.natAbs_neg]; exact h2⟩
theorem n_row_to {s : SS} {a b c : Int} : (m_row_to s a b c).n = s.n := rfl
theorem clR_nm {s : SS} {step row : Int} : (clR step s row).n = s.n ∧ (clR step s row).m = s.m := by
  unfold clR; split <;> exact ⟨rfl, rfl⟩
theorem clC_nm {s : SS} {step row : Int} : (clC step s row).n = s.n ∧ (clC step s row).m = s.m := by
  unfold clC; split <;> exact ⟨rfl, rfl⟩
theorem fold_nm {f : SS → Int → SS} (h : ∀ s z, (f s z).n = s.n ∧ (f s z).m = s.m) : ∀ (l : List Int) (s : SS), (l.foldl f s).n = s.n ∧ (l.foldl f s).m = s.m
  | [], s => ⟨rfl, rfl⟩
  | z :: l, s => by
    have := fold_nm h l (f s z)
    have k := h s z
    exact ⟨this.1.trans k.1, this.2.trans k.2⟩
structure PCl (s : SS) (step : Int) : Prop where
  n0 : 0 ≤ step
  n1 : step < s.n
  n2 : step < s.m
  n3 : s.n ≤ 1000
  n4 : s.m ≤ 1000
  r : ∀ (i : Nat) (row : Int), (rng2 (step + 1) s.n)[i]? = some row → OkR (((rng2 (step + 1) s.n).take i).foldl (clR step) s) step row
  c : ∀ (i : Nat) (col : Int), (rng2 (step + 1) s.m)[i]? = some col → OkC (((rng2 (step + 1) s.m).take i).foldl (clC step) ((rng2 (step + 1) s.n).foldl (clR step) s)) step col
end TL

namespace TL
open PySem PySem.Spec PyProof.Rows L2
def rNwS (H0 : Hp) (S : Addr → Prop) : Rp (List Int) := ⟨fun B v l => ∃ q, v = .ref q ∧ H0 q = none ∧ ¬ S q ∧ B q = some (.lst (l.map V.int)), fun s h => by
  obtain ⟨q, h1, h2, h3, h4⟩ := h
  exact ⟨q, h1, h2, h3, s _ _ h4⟩⟩
section
variable {X : Cx} {C : C0} {G G' G0 G1 G2 : List Ent} {e ex a b c it o : Expr} {es : List Expr} {rest body : List Stmt} {D : Ends} {x y m : Str} {p p2 pos pos' tp tpos cpos apos : Pos} {P : Addr → Prop} {s : SS} {v : V} {ad : AD}
theorem x_newS {l : List Int} (i : Nat) (h : XE X C e G G1 (.own false TL.rI l)) (h1 : G1[i]? = some (.dat (rSt X.mg P ad) s)) : XE X C e G G1 (.dat (rNwS C.H0 ad.cell) l) := Ev.mk fun B H σ O Q q => h B H σ O Q fun u B' H' O' s' hv ha => by
  obtain ⟨pp, vs, e1, e2, ⟨e3, e4, e5⟩, e6⟩ := hv
  cases e1
  rw [if_neg Bool.false_ne_true] at e5
  obtain ⟨ov, hs, v0, rfl, hst⟩ := O'.slot h1
  obtain ⟨O2, s2⟩ := O'.known e2 e3 (.inl e5) (ha rfl pp rfl)
  refine q _ _ _ O2 (s'.trans s2) ⟨pp, rfl, e5, AD.Apart.nc hst e3, ?_⟩
  rw [upd_same, ints_of e6]
theorem x_min2 {i j : Int} (hm : X.mg "min" = none) (ha : XE X C a G G1 (.dat TL.rI i)) (hb : XE X C b G1 G2 (.dat TL.rI j)) (hc : X.calm = true := by rfl) (hg : Gl X "min" := by rfl) (he : starEach [a, b] X.env = (false, eval a X.env) :: starEach [b] X.env := by rfl) (he2 : starEach [b] X.env = (false, eval b X.env) :: starEach [] X.env := by rfl) (hpl : (backTo pos (starEach [b] X.env)).any (·.1) = false := by rfl) : XE X C (.Call (.Name "min" p) [a, b] [] pos) G G2 (.dat TL.rI (if j < i then j else i)) :=
  x_of (pe_callB (call_min2 hc) hg hm (by decide +kernel) (pa_cons (pe_w a) (pa_cons (pe_w b) pa_nil he2) he) (he := he) (hpl := hpl)) (Ev.mk fun B H σ O Q q => ha.go O fun x B1 H1 O1 s1 hx => hb.go O1 fun y B2 H2 O2 s2 hy => ⟨i, j, by rw [show x = V.int i from hx, show y = V.int j from hy], q _ _ _ O2 (s1.trans s2) rfl⟩)
end
abbrev rPap (H0 : Hp) (a : AD) : Rp (Addr × Addr × Addr × Addr × List Int) := rTR (rowC rA (rowC rA (rowC rA (rowC rA (row1 (rNwS H0 a.cell))))))
def spP (mg : Str → Option Value) (pre : SS → Prop) (post : SS → SS × List Int) : Sp := fun vs H Q _ => ∃ (s : SS) (B : Hp) (v : V) (a : AD), vs = [v] ∧ pre s ∧ StAt mg (fun _ => True) a s B v ∧ Kn B H ∧ (∀ b o, H b = some o → Small o) ∧
  ∀ (B' H' : Hp) (a' : AD) (t q : Addr), Grow [] [] (mnP a.cell B) (mnP a.cell H) B' H' → StAt mg (Fresh (CS a.cell B H)) a' (post s).1 B' v → B' t = some (.tup [.ref (a'.at_ .L), .ref (a'.at_ .Lb), .ref (a'.at_ .R), .ref (a'.at_ .Rb), .ref q]) →
    B' q = some (.lst ((post s).2.map V.int)) → mnP a.cell H q = none → ¬ a'.cell q → Q (.ref t) H'
section
variable {P : Program} {w : World} {K : PySem.W.Frag} {mg : Str → Option Value} {base : Heap}
theorem fs_okP {pre : SS → Prop} {post : SS → SS × List Int} {x qual : Str} {st : Stmt} {f : Addr} {fd : FuncData} {N : List Str} {k : Nat} (Fn : Fun K x qual st f fd) (S : FnScope N ["self"] (defScope st))
    (body : ∀ (cdv : Value) (A : Around) (outer : List Env) (s : Shared) (H : Hp) (E : XK) (y : SS) (v : V) (C : C0) (D : Ends), pre y → C.lk = [] → Room k (A.deeper (envOfC qual (defScope st) s.heap.objs.size f cdv)) →
      (∀ G (a' : AD), G[0]? = some (.dat (rSt mg (Fresh C) a') (post y).1) → v = .ref a'.p → RetOk C D G (.dat (rPap C.H0 a') (a'.at_ .L, a'.at_ .Lb, a'.at_ .R, a'.at_ .Rb, (post y).2))) →
      GS (cxOf CX0 P w K mg base N qual (defScope st) f cdv A outer s H E).nox C (.dat (rSx mg (Fresh C) v) y :: List.replicate (N.length - 1) .any) (defBody st) D) : FnOk P w K mg base CX0 (k + 1) f fd ["self"] (spP mg pre post) := by
  refine Fn.ok S (fun vs H Q E h => ?_) (fun cdv A outer s H vs Q E hr h => ?_)
  · obtain ⟨y, B, v, a, rfl, _⟩ := h
    rfl
  · obtain ⟨y, B, v, a, rfl, hpre, h1, h2, h3, q⟩ := h
    refine ⟨_, pss_w _, ?_⟩
    rw [show L2.start N [v] = [v].map some ++ List.replicate (N.length - 1) none from rfl]
    refine body cdv A outer s H E y v (CS a.cell B H) _ hpre rfl hr (fun G a' hG hv u B' H' σ' O' hu _ => ?_) B H _ ((start_S (zs := []) h1 h2 h3).start _)
    obtain ⟨u', e1, t, vs, e2, ht, x1, w1, rfl, g1, x2, w2, rfl, g2, x3, w3, rfl, g3, x4, w4, rfl, g4, x5, rfl, q5, g5, g6, g7, g8⟩ := hu
    cases e1
    subst e2
    have g1 : x1 = .ref (a'.at_ .L) := g1
    have g2 : x2 = .ref (a'.at_ .Lb) := g2
    have g3 : x3 = .ref (a'.at_ .R) := g3
    have g4 : x4 = .ref (a'.at_ .Rb) := g4
    subst g1 g2 g3 g4 g5
    obtain ⟨ov, hs, v0, rfl, hst⟩ := O'.slot hG
    have e0 : v0 = v := hst.pv.trans hv.symm
    subst e0
    exact q B' H' a' t q5 O'.g hst ht g8 g6 g7
end
abbrev Pap : Type := Tbl × Tbl × Tbl × Tbl × List Int
def fPap : RF Pap where
  rel := fun B v p L => ∃ (t q : Addr) (x : Fd → Addr) (qs : Fd → List Addr), v = .ref t ∧ B t = some (.tup [.ref (x .L), .ref (x .Lb), .ref (x .R), .ref (x .Rb), .ref q]) ∧ B q = some (.lst (p.2.2.2.2.map V.int)) ∧
    TabAt B (x .L) (qs .L) p.1 ∧ TabAt B (x .Lb) (qs .Lb) p.2.1 ∧ TabAt B (x .R) (qs .R) p.2.2.1 ∧ TabAt B (x .Rb) (qs .Rb) p.2.2.2.1 ∧
    L = q :: x .L :: x .Lb :: x .R :: x .Rb :: (qs .L ++ (qs .Lb ++ (qs .R ++ qs .Rb)))
  mono := fun s h => by
    obtain ⟨t, q, x, qs, h1, h2, h3, h4, h5, h6, h7, h8⟩ := h
    exact ⟨t, q, x, qs, h1, s _ _ h2, s _ _ h3, h4.mono s, h5.mono s, h6.mono s, h7.mono s, h8⟩
  lst := fun {B v p L} h z hz => by
    obtain ⟨t, q, x, qs, h1, h2, h3, h4, h5, h6, h7, h8⟩ := h
    subst h8
    have tl : ∀ {y : Addr} {l : List Addr} {tb : Tbl}, TabAt B y l tb → z ∈ l → ∃ o, B z = some o ∧ isTup o = false := fun {y l tb} ht hz => by
      obtain ⟨i, hi⟩ := List.mem_iff_getElem?.mp hz
      have : i < tb.length := by rw [← ht.n]; exact lt_get hi
      exact ⟨_, ht.r i z _ hi (List.getElem?_eq_getElem this), rfl⟩
    rcases List.mem_cons.mp hz with rfl | hz
    · exact ⟨_, h3, rfl⟩
    rcases List.mem_cons.mp hz with rfl | hz
    · exact ⟨_, h4.l, rfl⟩
    rcases List.mem_cons.mp hz with rfl | hz
    · exact ⟨_, h5.l, rfl⟩
    rcases List.mem_cons.mp hz with rfl | hz
    · exact ⟨_, h6.l, rfl⟩
    rcases List.mem_cons.mp hz with rfl | hz
    · exact ⟨_, h7.l, rfl⟩
    rcases List.mem_append.mp hz with hz | hz
    · exact tl h4 hz
    rcases List.mem_append.mp hz with hz | hz
    · exact tl h5 hz
    rcases List.mem_append.mp hz with hz | hz
    · exact tl h6 hz
    · exact tl h7 hz
theorem ints_paired {B : Hp} : ∀ l : List Int, Paired (TL.rI.rel B) (l.map V.int) l
  | [] => .nil
  | z :: l => .cons rfl (ints_paired l)
end TL

namespace TL
open PySem PySem.Spec PyProof.Rows L2
abbrev isA (x : Addr) : Addr → Prop := fun q => q = x
theorem Grow.cutx {x : Addr} {B H B' H' : Hp} (g : Grow [] [] B H B' H') (b1 : B x = none) (b2 : B' x = none) : Grow [] [] B (mnP (isA x) H) B' (mnP (isA x) H') := by
  refine ⟨g.bb, fun a u e => ?_, fun b o nb e => ?_, fun b o e => ?_, fun b o e t => ?_, fun b e => absurd e List.not_mem_nil, fun b e => absurd e List.not_mem_nil, fun b o e => g.sm b o (mnP_some e).2⟩
  · have : ¬ isA x a := fun z => by
      have z : a = x := z
      rw [z, b2] at e; cases e
    rw [mnP_off this]; exact g.kn a u e
  · obtain ⟨n, e⟩ := mnP_some e
    rw [mnP_off n]; exact g.hh b o nb e
  · obtain ⟨n, e⟩ := mnP_some e
    rw [mnP_off n]; exact g.mm b o e
  · exact g.nw b o (mnP_some e).2 t
structure IS (x CA dx : Addr) (G : List Ent) (B0 H0 : Hp) (fs : List (Str × V)) (B H : Hp) (σ : L2.St) : Prop where
  ok : Ok (C00 B H []) G B H σ
  hx : H x = some (.ins CA dx fs)
  bx : B x = none
  gr : Grow [] [] B0 (mnP (isA x) H0) B (mnP (isA x) H)
  sx : σ[0]? = some (some (.ref x))
theorem Ok.rb {G : List Ent} {C : C0} {B H H2 : Hp} {σ : L2.St} (O : Ok C G B H σ) (hp : ∀ (i : Nat) (e : Ent), G[i]? = some e → e.odd = false) (kn : Kn B H2) (sm : ∀ b o, H2 b = some o → Small o) : Ok (C00 B H2 []) G B H2 σ := by
  refine ⟨Grow.refl kn (fun _ h => absurd h List.not_mem_nil) sm, fun b x e => (by cases e), O.len, fun i e ov hi hs => ?_, fun i j e e' p n hi hj m => ?_⟩
  · have := O.ent i e ov hi hs
    have o := hp i e hi
    cases e with
    | any => trivial
    | dat r a => exact this
    | own m r l => cases o
    | ownT m r l => cases o
    | ownK m r l => cases o
    | ownX m l => cases o
    | tld F a => cases o
  · rw [odd_mine (hp i e hi)] at m; cases m
section
variable {X : Cx} {C : C0} {G : List Ent} {ex : Expr} {rest : List Stmt} {D : Ends} {f y : Str} {p p2 pos pos' : Pos} {x CA dx : Addr} {B0 H0 B H : Hp} {σ : L2.St} {fs : List (Str × V)}
theorem is_put {B' H' : Hp} {v : V} (S : IS x CA dx G B0 H0 fs B H σ) (hp : ∀ (i : Nat) (e : Ent), G[i]? = some e → e.odd = false) (O' : Ok (C00 B H []) G B' H' σ) (f : Str) : H' x = some (.ins CA dx fs) ∧ IS x CA dx G B0 H0 (putF f v fs) B' (upd H' x (.ins CA dx (putF f v fs))) σ := by
  have g : Grow [] [] B H B' H' := O'.g
  have bx' : B' x = none := (g.nw x _ S.hx rfl).trans S.bx
  have hx' : H' x = some (.ins CA dx fs) := by
    rcases g.hh x _ List.not_mem_nil S.hx with z | ⟨z, _⟩
    · exact z
    · cases z
  refine ⟨hx', ?_, upd_same, bx', ?_, S.sx⟩
  · refine O'.rb hp (fun a u e => ?_) (fun b o e => ?_)
    · have n : a ≠ x := fun z => by rw [z, bx'] at e; cases e
      rw [upd_ne n]; exact g.kn a u e
    · by_cases c : b = x
      · subst c; rw [upd_same] at e; cases e; exact trivial
      · rw [upd_ne c] at e; exact g.sm b o e
  · have e : mnP (isA x) (upd H' x (.ins CA dx (putF f v fs))) = mnP (isA x) H' := by
      funext b
      by_cases c : b = x
      · rw [mnP_on (show isA x b from c), mnP_on (show isA x b from c)]
      · rw [mnP_off (show ¬ isA x b from c), mnP_off (show ¬ isA x b from c), upd_ne c]
    rw [e]
    exact S.gr.trans (g.cutx S.bx bx') fun _ h => absurd h List.not_mem_nil
theorem ini_T {t : Tbl} (S : IS x CA dx G B0 H0 fs B H σ) (hp : ∀ (i : Nat) (e : Ent), G[i]? = some e → e.odd = false) (c : Cls X.K CA) (na : NoAttr X.K CA f) (hl : fs.length < 1000) (he : XE X (C00 B H []) ex G G (.tld (fTb TL.rI) t))
    (k : ∀ (q : Addr) (qs : List Addr) (B' H' : Hp), IS x CA dx G B0 H0 (putF f (.ref q) fs) B' H' σ → Same B B' → TabAt B' q qs t → (q :: qs).Nodup → (∀ z ∈ q :: qs, H z = none) → wSs X rest D σ H')
    (hN : X.N[0]? = some y) (hv : Vis X.env.scope y := by first | exact Or.inl rfl | exact Or.inr (Or.inl rfl) | exact Or.inr (Or.inr rfl)) (hd : (y == ("__debug__" : Str)) = false := by decide) (hcd : (y == ("__classdict__" : Str)) = false := by decide)
    (hs : swapsWith ex (some (.Attribute (.Name y p) f pos')) pos.line X.env = pure false := by rfl) : wSs X (.Assign [.Attribute (.Name y p) f pos'] ex pos :: rest) D σ H :=
  w_ps (ps_fld (pe_var hN hv hd hcd) (pe_w ex) hs) (he B H σ S.ok _ fun v B' H' O' s hv' _ => by
    obtain ⟨u, L, e1, ⟨q, qs, e2, e3, e4, e5⟩, nd, fr⟩ := hv'
    cases e1
    subst e2 e3
    obtain ⟨h1, h2⟩ := is_put (v := .ref q) S hp O' f
    refine ⟨.ref x, S.sx, x, CA, dx, fs, rfl, h1, c, na, hl, k q qs _ _ h2 s ⟨e4, e5.length, fun i z r hz hr => ?_⟩ nd fr⟩
    have : ∀ {qs : List Addr} {t : Tbl} {i : Nat}, Paired (fun q row => ∃ ws, B' q = some (.lst ws) ∧ Paired (TL.rI.rel B') ws row) qs t → qs[i]? = some z → t[i]? = some r → B' z = some (.lst (r.map V.int)) := fun {qs t i} h => by
      induction h generalizing i with
      | nil => intro a _; cases a
      | cons h _ ih =>
        intro a b
        cases i with
        | zero =>
          cases a; cases b
          obtain ⟨ws, k1, k2⟩ := h
          rw [k1, ints_of k2]
        | succ i => exact ih a b
    exact this e5 hz hr)
theorem ini_I {z : Int} (S : IS x CA dx G B0 H0 fs B H σ) (hp : ∀ (i : Nat) (e : Ent), G[i]? = some e → e.odd = false) (c : Cls X.K CA) (na : NoAttr X.K CA f) (hl : fs.length < 1000) (he : XE X (C00 B H []) ex G G (.dat TL.rI z))
    (k : ∀ (B' H' : Hp), IS x CA dx G B0 H0 (putF f (.int z) fs) B' H' σ → Same B B' → wSs X rest D σ H')
    (hN : X.N[0]? = some y) (hv : Vis X.env.scope y := by first | exact Or.inl rfl | exact Or.inr (Or.inl rfl) | exact Or.inr (Or.inr rfl)) (hd : (y == ("__debug__" : Str)) = false := by decide) (hcd : (y == ("__classdict__" : Str)) = false := by decide)
    (hs : swapsWith ex (some (.Attribute (.Name y p) f pos')) pos.line X.env = pure false := by rfl) : wSs X (.Assign [.Attribute (.Name y p) f pos'] ex pos :: rest) D σ H :=
  w_ps (ps_fld (pe_var hN hv hd hcd) (pe_w ex) hs) (he.go S.ok fun v B' H' O' s hv' => by
    have hv' : v = .int z := hv'
    subst hv'
    obtain ⟨h1, h2⟩ := is_put (v := .int z) S hp O' f
    exact ⟨.ref x, S.sx, x, CA, dx, fs, rfl, h1, c, na, hl, k _ _ h2 s⟩)
end
def ss0 (n m : Int) (t : Tbl) (E : Int → Tbl) : SS := ⟨n, m, fun f => match f with | .T => t | .L => E n | .Lb => E n | .R => E m | .Rb => E m⟩
def spInit (mg : Str → Option Value) (E : Int → Tbl) : Sp := fun vs H Q _ => ∃ (x dx CA : Addr) (tv : V) (n m : Int) (t : Tbl) (B : Hp), vs = [.ref x, tv, .int n, .int m] ∧ mg "Stepper" = some (.ref CA) ∧ H x = some (.ins CA dx []) ∧ B x = none ∧ (rL (rL TL.rI)).rel B tv t ∧ (0 ≤ n ∧ n ≤ 1000 ∧ 0 ≤ m ∧ m ≤ 1000) ∧ Kn B H ∧ (∀ b o, H b = some o → Small o) ∧
  ∀ (B' H' : Hp) (a : AD), Grow [] [] B (mnP (isA x) H) B' H' → a.p = x → StAt mg (fun q => mnP (isA x) H q = none) a (ss0 n m t E) B' (.ref x) → Q .non H'
theorem Grow.addx {x : Addr} {B0 H0 B H : Hp} {o : HO} (g : Grow [] [] B0 (mnP (isA x) H0) B (mnP (isA x) H)) (hx : H x = some o) (bx : B x = none) (so : Small o) : Grow [] [] B0 (mnP (isA x) H0) (upd B x o) H := by
  have ne : ∀ {b : Addr} {u : HO}, mnP (isA x) H0 b = some u → b ≠ x := fun e z => (mnP_some e).1 z
  refine ⟨fun b u e => ?_, fun a u e => ?_, fun b u nb e => ?_, fun b u e => ?_, fun b u e t => ?_, fun b e => absurd e List.not_mem_nil, fun b e => absurd e List.not_mem_nil, fun b u e => ?_⟩
  · have k := g.bb b u e
    rw [upd_ne (fun z => by rw [z, bx] at k; cases k)]; exact k
  · by_cases c : a = x
    · subst c; rw [upd_same] at e; cases e; exact .inl hx
    · rw [upd_ne c] at e
      have k := g.kn a u e
      rw [mnP_off (show ¬ isA x a from c)] at k; exact k
  · have n := ne e
    have k := g.hh b u nb e
    rw [mnP_off (show ¬ isA x b from n)] at k
    rcases k with k | ⟨k1, k2, k3⟩
    · exact .inl k
    · exact .inr ⟨k1, by rw [upd_ne n]; exact k2, k3⟩
  · have n := ne e
    have k := g.mm b u e
    rw [mnP_off (show ¬ isA x b from n)] at k; exact k
  · rw [upd_ne (ne e)]; exact g.nw b u e t
  · by_cases c : b = x
    · subst c; rw [hx] at e; cases e; exact so
    · exact g.sm b u (by rw [mnP_off (show ¬ isA x b from c)]; exact e)
theorem IS.some {x CA dx : Addr} {G : List Ent} {B0 H0 B H : Hp} {fs : List (Str × V)} {σ : L2.St} (S : IS x CA dx G B0 H0 fs B H σ) {z : Addr} {ws : List V} (h : B z = some (.lst ws)) : H z ≠ none := fun e => by
  have := S.ok.g.kn.x h rfl
  rw [e] at this; cases this
theorem tab_some {B : Hp} {q : Addr} {qs : List Addr} {t : Tbl} (h : TabAt B q qs t) : ∀ z ∈ q :: qs, ∃ ws, B z = some (.lst ws) := fun z hz => by
  rcases List.mem_cons.mp hz with rfl | hz
  · exact ⟨_, h.l⟩
  · obtain ⟨i, hi⟩ := List.mem_iff_getElem?.mp hz
    have : i < t.length := by rw [← h.n]; exact lt_get hi
    exact ⟨_, h.r i z _ hi (List.getElem?_eq_getElem this)⟩
theorem tab_off {x CA dx : Addr} {G : List Ent} {B0 H0 B B1 H : Hp} {fs : List (Str × V)} {σ : L2.St} {q q' : Addr} {qs qs' : List Addr} {t : Tbl} (S : IS x CA dx G B0 H0 fs B H σ) (h : TabAt B1 q qs t) (s : Same B1 B) (fr : ∀ z ∈ q' :: qs', H z = none) : ∀ z ∈ q :: qs, z ∉ q' :: qs' := fun z hz hz' => by
  obtain ⟨ws, e⟩ := tab_some h z hz
  exact S.some (s _ _ e) (fr z hz')
theorem ap_of {a : AD} (nd : ∀ f, (a.at_ f :: a.rows f).Nodup) (off : ∀ f g, f ≠ g → ∀ z ∈ a.at_ f :: a.rows f, z ∉ a.at_ g :: a.rows g) : a.Apart := by
  refine ⟨fun f g h => ?_, fun f g h => ?_, fun f g i j q h1 h2 => ?_⟩
  · by_cases c : f = g
    · exact c
    · exact absurd (by rw [h]; exact List.mem_cons_self) (off f g c (a.at_ f) List.mem_cons_self)
  · by_cases c : f = g
    · subst c; exact (List.nodup_cons.mp (nd f)).1 h
    · exact off f g c _ List.mem_cons_self (List.mem_cons_of_mem _ h)
  · by_cases c : f = g
    · subst c
      refine ⟨rfl, ?_⟩
      have hn := (List.nodup_cons.mp (nd f)).2
      have l1 := lt_get h1
      have l2 := lt_get h2
      rw [List.getElem?_eq_getElem l1] at h1
      rw [List.getElem?_eq_getElem l2] at h2
      have e := (Option.some.inj h1).trans (Option.some.inj h2).symm
      have pw := List.pairwise_iff_getElem.mp hn
      rcases Nat.lt_trichotomy i j with c | c | c
      · exact absurd e (pw i j l1 l2 c)
      · exact c
      · exact absurd e.symm (pw j i l2 l1 c)
    · exact absurd (List.mem_cons_of_mem _ (List.mem_of_getElem? h2)) (off f g c q (List.mem_cons_of_mem _ (List.mem_of_getElem? h1)))
end TL

namespace TL
open PySem PySem.Spec PyProof.Rows L2
structure ICal (P : Program) (w : World) (K : PySem.W.Frag) (mg : Str → Option Value) (base : Heap) (sp : Sp) (k : Nat) : Prop where
  ex : ∃ (CA f : Addr) (fd : FuncData), mg "Stepper" = some (.ref CA) ∧ Mk K CA f ∧ FnOk P w K mg base CX0 k f fd ["self", "table", "rows", "columns"] sp ∧ Binds K fd ["self", "table", "rows", "columns"] []
theorem grow_cut {B H B1 H1 B2 H2 : Hp} {S : Addr → Prop} (g1 : Grow [] [] B H B1 H1) (hS : ∀ q, S q → H q = none) (kn : Kn B H) (g2 : Grow [] [] (mnP S B1) (mnP S H1) B2 H2) : Grow [] [] B H B2 H2 := by
  have nS : ∀ {b u}, H b = some u → ¬ S b := fun e z => by rw [hS _ z] at e; cases e
  have nB : ∀ {b u}, B b = some u → ¬ S b := fun {b u} e z => by
    rcases kn b u e with k | ⟨_, _, k⟩ <;> rw [hS b z] at k <;> cases k
  refine ⟨fun b u e => g2.bb b u (by rw [mnP_off (nB e)]; exact g1.bb b u e), g2.kn, fun b u nb e => ?_, fun b u e => ?_, fun b u e t => ?_, fun b e => absurd e List.not_mem_nil, fun b e => absurd e List.not_mem_nil, g2.sm⟩
  · rcases g1.hh b u nb e with z | ⟨z1, z2, od, z3⟩
    · rcases g2.hh b u nb (by rw [mnP_off (nS e)]; exact z) with y | y
      · exact .inl y
      · exact .inr y
    · rcases g2.hh b _ nb (by rw [mnP_off (nS e)]; exact z3) with y | ⟨y, _⟩
      · exact .inr ⟨z1, g2.bb b u (by rw [mnP_off (nS e)]; exact z2), od, y⟩
      · cases y
  · obtain ⟨o1, k1, k2⟩ := g1.mm b u e
    obtain ⟨o2, k3, k4⟩ := g2.mm b o1 (by rw [mnP_off (nS e)]; exact k1)
    exact ⟨o2, k3, fun t => k4 (k2 t)⟩
  · obtain ⟨o1, k1, k2⟩ := g1.mm b u e
    have := g2.nw b o1 (by rw [mnP_off (nS e)]; exact k1) (k2 t)
    rw [mnP_off (nS e)] at this
    exact this.trans (g1.nw b u e t)
theorem AD.Apart.nd {a : AD} (h : a.Apart) (f : Fd) : (a.rows f).Nodup := by
  refine List.pairwise_iff_getElem.mpr fun i j hi hj hlt e => ?_
  have := (h.i3 f f i j _ (List.getElem?_eq_getElem hi) (by rw [e]; exact List.getElem?_eq_getElem hj)).2
  omega
theorem AD.Apart.off {a : AD} (h : a.Apart) {f g : Fd} (n : f ≠ g) {z : Addr} (h1 : z ∈ a.rows f) : z ∉ a.rows g := fun h2 => by
  obtain ⟨i, hi⟩ := List.mem_iff_getElem?.mp h1
  obtain ⟨j, hj⟩ := List.mem_iff_getElem?.mp h2
  exact n (h.i3 f g i j z hi hj).1
theorem pap_nd {a : AD} (h : a.Apart) {q : Addr} (hq : ¬ a.cell q) : (q :: a.at_ .L :: a.at_ .Lb :: a.at_ .R :: a.at_ .Rb :: (a.rows .L ++ (a.rows .Lb ++ (a.rows .R ++ a.rows .Rb)))).Nodup := by
  have q1 : ∀ f, q ≠ a.at_ f := fun f z => hq (.inl ⟨f, z⟩)
  have q2 : ∀ f, q ∉ a.rows f := fun f z => hq (.inr ⟨f, z⟩)
  have n1 : ∀ f g, f ≠ g → a.at_ f ≠ a.at_ g := fun f g n e => n (h.i1 f g e)
  have n2 := h.i2
  have rr : (a.rows .L ++ (a.rows .Lb ++ (a.rows .R ++ a.rows .Rb))).Nodup := by
    refine List.nodup_append.mpr ⟨h.nd _, List.nodup_append.mpr ⟨h.nd _, List.nodup_append.mpr ⟨h.nd _, h.nd _, fun x hx y hy e => ?_⟩, fun x hx y hy e => ?_⟩, fun x hx y hy e => ?_⟩
    · subst e; exact h.off (by decide) hx hy
    · subst e
      rcases List.mem_append.mp hy with hy | hy
      · exact h.off (by decide) hx hy
      · exact h.off (by decide) hx hy
    · subst e
      rcases List.mem_append.mp hy with hy | hy
      · exact h.off (by decide) hx hy
      rcases List.mem_append.mp hy with hy | hy
      · exact h.off (by decide) hx hy
      · exact h.off (by decide) hx hy
  have no : ∀ z, (∀ f, z ∉ a.rows f) → z ∉ a.rows .L ++ (a.rows .Lb ++ (a.rows .R ++ a.rows .Rb)) := fun z hz hm => by
    rcases List.mem_append.mp hm with hm | hm
    · exact hz _ hm
    rcases List.mem_append.mp hm with hm | hm
    · exact hz _ hm
    rcases List.mem_append.mp hm with hm | hm
    · exact hz _ hm
    · exact hz _ hm
  refine List.nodup_cons.mpr ⟨fun hm => ?_, List.nodup_cons.mpr ⟨fun hm => ?_, List.nodup_cons.mpr ⟨fun hm => ?_, List.nodup_cons.mpr ⟨fun hm => ?_, List.nodup_cons.mpr ⟨no _ (n2 _), rr⟩⟩⟩⟩⟩
  · rcases List.mem_cons.mp hm with hm | hm
    · exact q1 _ hm
    rcases List.mem_cons.mp hm with hm | hm
    · exact q1 _ hm
    rcases List.mem_cons.mp hm with hm | hm
    · exact q1 _ hm
    rcases List.mem_cons.mp hm with hm | hm
    · exact q1 _ hm
    · exact no q q2 hm
  · rcases List.mem_cons.mp hm with hm | hm
    · exact n1 _ _ (by decide) hm
    rcases List.mem_cons.mp hm with hm | hm
    · exact n1 _ _ (by decide) hm
    rcases List.mem_cons.mp hm with hm | hm
    · exact n1 _ _ (by decide) hm
    · exact no _ (n2 _) hm
  · rcases List.mem_cons.mp hm with hm | hm
    · exact n1 _ _ (by decide) hm
    rcases List.mem_cons.mp hm with hm | hm
    · exact n1 _ _ (by decide) hm
    · exact no _ (n2 _) hm
  · rcases List.mem_cons.mp hm with hm | hm
    · exact n1 _ _ (by decide) hm
    · exact no _ (n2 _) hm
def papOf (r : SS × List Int) : Pap := (r.1.tb .L, r.1.tb .Lb, r.1.tb .R, r.1.tb .Rb, r.2)
section
variable {X : Cx} {C : C0} {G G1 : List Ent} {e1 e2 e3 : Expr} {p apos pos cpos : Pos} {t : Tbl} {n m : Int}
theorem x_paperOf {E : Int → Tbl} {pre : SS → Prop} {post : SS → SS × List Int} {k1 k2 : Nat} {pl : Sem Bool} (cI : ICal X.prog X.w X.K X.mg X.base (spInit X.mg E) k1) (cP : MCal X.prog X.w X.K X.mg X.base "paper" ["self"] (spP X.mg pre post) k2) (hr1 : Room (k1 + 1) X.A) (hr2 : Room k2 X.A)
    (ha : XA X C [e1, e2, e3] G G1 [.d (rL (rL TL.rI)) t, .d TL.rI n, .d TL.rI m]) (hb : 0 ≤ n ∧ n ≤ 1000 ∧ 0 ≤ m ∧ m ≤ 1000) (hpre : pre (ss0 n m t E))
    (hg : Gl X "Stepper" := by rfl) (hdb : (("Stepper" : Str) == ("__debug__" : Str)) = false := by decide) (he : starEach [e1, e2, e3] X.env = (false, eval e1 X.env) :: starEach [e2, e3] X.env := by rfl) (hpl : (backTo cpos (starEach [e2, e3] X.env)).any (·.1) = false := by rfl)
    (ht : eval (.Call (.Attribute (.Call (.Name "Stepper" p) [e1, e2, e3] [] cpos) "paper" apos) [] [] pos) X.env = (do
      let ov ← eval (.Call (.Name "Stepper" p) [e1, e2, e3] [] cpos) X.env
      standAt apos.atName
      let (f, first) ← holding [ov] (getMethod ov "paper" pl)
      callWith pos f first (backTo pos (starEach [] X.env)) (backToKw pos (keywordEach [] X.env))) := by rfl) :
    XE X C (.Call (.Attribute (.Call (.Name "Stepper" p) [e1, e2, e3] [] cpos) "paper" apos) [] [] pos) G G1 (.tld fPap (papOf (post (ss0 n m t E)))) := fun B H σ O Q q => by
  obtain ⟨CA, f, fd, i1, i2, i3, i4⟩ := cI.ex
  obtain ⟨CB, g, gd, c1, c2, c3, c4, c5⟩ := cP.ex
  rw [i1] at c1
  cases c1
  refine w_pe (pe_meth0 (dvs := []) (pe_make (dvs := []) i2 i3 hr1 hg i1 i4 .nil pass0 (pa_w _) hdb he hpl) c2 c3 c4 hr2 c5 .nil pass0 ht) (ha B H σ O _ fun vs B1 H1 O1 s1 hvs x dx hx hdx hne => ?_)
  obtain ⟨O2, s2⟩ := O1.learn (o := .own x) hdx trivial
  cases hvs with
  | cons h1 hvs => cases hvs with
    | cons h2 hvs => cases hvs with
      | cons h3 hvs =>
        cases hvs
        rename_i tv v2 v3
        have h2 : v2 = .int n := h2
        have h3 : v3 = .int m := h3
        subst h2 h3
        have bx1 : B1 x = none := by
          cases z : B1 x with
          | none => rfl
          | some u => rcases O1.g.kn x u z with y | ⟨_, _, y⟩ <;> rw [hx] at y <;> cases y
        have bx : upd B1 dx (.own x) x = none := by rw [upd_ne (Ne.symm hne)]; exact bx1
        have hdxx : upd H1 dx (.own x) x = none := by rw [upd_ne (Ne.symm hne)]; exact hx
        have em : mnP (isA x) (upd (upd H1 dx (.own x)) x (.ins CA dx [])) = upd H1 dx (.own x) := by
          funext b
          by_cases c : b = x
          · rw [mnP_on (show isA x b from c), c, hdxx]
          · rw [mnP_off (show ¬ isA x b from c), upd_ne c]
        refine ⟨x, dx, CA, tv, n, m, t, upd B1 dx (.own x), rfl, i1, upd_same, bx, (rL (rL TL.rI)).mono s2 h1, hb, fun a u e => ?_, fun b o e => ?_, fun B' H' a gg ap hst => ?_⟩
        · have na : a ≠ x := fun z => by rw [z, bx] at e; cases e
          rw [upd_ne na]; exact O2.g.kn a u e
        · by_cases c : b = x
          · subst c; rw [upd_same] at e; cases e; exact trivial
          · rw [upd_ne c] at e; exact O2.g.sm b o e
        rw [em] at gg
        have fr : ∀ z, a.cell z → upd H1 dx (.own x) z = none := fun z hz => by
          have := hst.fr z hz
          rw [em] at this; exact this
        refine ⟨rfl, a.p, a.dx, _, by rw [ap], gg.kn.x (hst.lk i1) rfl, rfl, ?_⟩
        refine ⟨ss0 n m t E, B', .ref x, a, rfl, hpre, hst.weak fun _ _ => trivial, gg.kn, gg.sm, fun B2 H2 a' tt qq g2 h' ht' hq' hq0 hqn => ?_⟩
        have G2 := grow_cut gg fr O2.g.kn g2
        have O3 := O2.after G2
        have fresh : ∀ z, mnP a.cell H' z = none → C.H0 z = none := fun z hz => by
          refine O2.g.old ?_
          by_cases c : a.cell z
          · exact fr z c
          · rw [mnP_off c] at hz; exact gg.old hz
        refine q (.ref tt) B2 H2 O3 ((s1.trans s2).trans G2.bb) ⟨.ref tt, _, rfl, ⟨tt, qq, a'.at_, a'.rows, rfl, ht', hq', h'.tb .L, h'.tb .Lb, h'.tb .R, h'.tb .Rb, rfl⟩, pap_nd h'.ap hqn, fun z hz => ?_⟩ fun mm => nomatch mm
        have cellf : ∀ z, a'.cell z → C.H0 z = none := fun z hz => fresh z (h'.fr z hz).2.2
        rcases List.mem_cons.mp hz with rfl | hz
        · exact fresh _ hq0
        rcases List.mem_cons.mp hz with rfl | hz
        · exact cellf _ (.inl ⟨_, rfl⟩)
        rcases List.mem_cons.mp hz with rfl | hz
        · exact cellf _ (.inl ⟨_, rfl⟩)
        rcases List.mem_cons.mp hz with rfl | hz
        · exact cellf _ (.inl ⟨_, rfl⟩)
        rcases List.mem_cons.mp hz with rfl | hz
        · exact cellf _ (.inl ⟨_, rfl⟩)
        rcases List.mem_append.mp hz with hz | hz
        · exact cellf _ (.inr ⟨_, hz⟩)
        rcases List.mem_append.mp hz with hz | hz
        · exact cellf _ (.inr ⟨_, hz⟩)
        rcases List.mem_append.mp hz with hz | hz
        · exact cellf _ (.inr ⟨_, hz⟩)
        · exact cellf _ (.inr ⟨_, hz⟩)
end
end TL

namespace TL
open PySem PySem.Spec PyProof.Rows L2
theorem getA_set {α : Type} [Inhabited α] {l : List α} {k i : Int} {v : α} (k0 : 0 ≤ k) (k1 : k < l.length) (i0 : 0 ≤ i) (i1 : i < l.length) : getA (setA l k v) i = if i = k then v else getA l i := by
  obtain ⟨k, rfl⟩ := Int.eq_ofNat_of_zero_le k0
  obtain ⟨i, rfl⟩ := Int.eq_ofNat_of_zero_le i0
  have hk : k < l.length := by omega
  have hi : i < l.length := by omega
  rw [getA_nat (by rw [setA_len]; exact hi), getA_nat hi]
  unfold setA
  simp only [Int.toNat_natCast, List.getElem_set]
  by_cases c : k = i
  · subst c; rw [if_pos rfl, if_pos rfl]
  · rw [if_neg c, if_neg (by omega)]
theorem getA_map {α β : Type} [Inhabited α] [Inhabited β] {l : List α} {f : α → β} {i : Int} (i0 : 0 ≤ i) (i1 : i < l.length) : getA (l.map f) i = f (getA l i) := by
  obtain ⟨i, rfl⟩ := Int.eq_ofNat_of_zero_le i0
  have hi : i < l.length := by omega
  rw [getA_nat (by rw [List.length_map]; exact hi), getA_nat hi, List.getElem_map]
theorem getA_zip {l m : List Int} {f : Int × Int → Int} {i : Int} (i0 : 0 ≤ i) (i1 : i < l.length) (i2 : i < m.length) : getA (List.map f (List.zip l m)) i = f (getA l i, getA m i) := by
  obtain ⟨i, rfl⟩ := Int.eq_ofNat_of_zero_le i0
  have h1 : i < l.length := by omega
  have h2 : i < m.length := by omega
  rw [getA_nat (by rw [List.length_map, List.length_zip]; omega), getA_nat h1, getA_nat h2, List.getElem_map, List.getElem_zip]
theorem mem_setA {α : Type} {l : List α} {k : Int} {v x : α} (h : x ∈ setA l k v) : x = v ∨ x ∈ l := by
  unfold setA at h
  rcases List.mem_or_eq_of_mem_set h with h | h
  · exact .inr h
  · exact .inl h
theorem Rect.set {t : Tbl} {n m k : Int} {r : List Int} (h : Rect t n m) (hr : (r.length : Int) = m) : Rect (setA t k r) n m := ⟨by rw [setA_len]; exact h.1, fun row hrow => (mem_setA hrow).elim (fun e => by rw [e]; exact hr) (h.2 row)⟩
theorem Rect.map {t : Tbl} {n m : Int} {f : List Int → List Int} (h : Rect t n m) (hf : ∀ r, (f r).length = r.length) : Rect (t.map f) n m := ⟨by rw [List.length_map]; exact h.1, fun row hrow => by
  obtain ⟨r, hr, rfl⟩ := List.mem_map.mp hrow
  rw [hf]; exact h.2 r hr⟩
section
variable {t : Tbl} {n m a b i j q : Int}
theorem rect_rAdd (h : Rect t n m) (a0 : 0 ≤ a) (a1 : a < n) (b0 : 0 ≤ b) (b1 : b < n) : Rect (rAdd t a q b) n m := h.set (by
  have := (h.get a0 a1).2
  have := (h.get b0 b1).2
  rw [List.length_map, List.length_zip]; omega)
theorem rect_rSub (h : Rect t n m) (a0 : 0 ≤ a) (a1 : a < n) (b0 : 0 ≤ b) (b1 : b < n) : Rect (rSub t a q b) n m := h.set (by
  have := (h.get a0 a1).2
  have := (h.get b0 b1).2
  rw [List.length_map, List.length_zip]; omega)
theorem rect_rNeg (h : Rect t n m) (a0 : 0 ≤ a) (a1 : a < n) : Rect (rNeg t a) n m := h.set (by
  have := (h.get a0 a1).2
  rw [List.length_map]; omega)
theorem swA_len {α : Type} [Inhabited α] {l : List α} : (swA a b l).length = l.length := by unfold swA; rw [setA_len, setA_len]
theorem rect_swA (h : Rect t n m) (a0 : 0 ≤ a) (a1 : a < n) (b0 : 0 ≤ b) (b1 : b < n) : Rect (swA a b t) n m := (h.set (h.get b0 b1).2).set (h.get a0 a1).2
theorem cAdd_len {r : List Int} : (cAdd a q b r).length = r.length := setA_len
theorem cSub_len {r : List Int} : (cSub a q b r).length = r.length := setA_len
theorem cNeg_len {r : List Int} : (cNeg a r).length = r.length := setA_len
theorem at2_rAdd (h : Rect t n m) (a0 : 0 ≤ a) (a1 : a < n) (b0 : 0 ≤ b) (b1 : b < n) (i0 : 0 ≤ i) (i1 : i < n) (j0 : 0 ≤ j) (j1 : j < m) : at2 (rAdd t a q b) i j = if i = b then at2 t b j + q * at2 t a j else at2 t i j := by
  unfold at2 rAdd
  rw [getA_set b0 (by rw [h.1]; exact b1) i0 (by rw [h.1]; exact i1)]
  by_cases c : i = b
  · rw [if_pos c, if_pos c, getA_zip j0 (by rw [(h.get a0 a1).2]; exact j1) (by rw [(h.get b0 b1).2]; exact j1)]
  · rw [if_neg c, if_neg c]
theorem at2_rNeg (h : Rect t n m) (a0 : 0 ≤ a) (a1 : a < n) (i0 : 0 ≤ i) (i1 : i < n) (j0 : 0 ≤ j) (j1 : j < m) : at2 (rNeg t a) i j = if i = a then -(at2 t a j) else at2 t i j := by
  unfold at2 rNeg
  rw [getA_set a0 (by rw [h.1]; exact a1) i0 (by rw [h.1]; exact i1)]
  by_cases c : i = a
  · rw [if_pos c, if_pos c, getA_map j0 (by rw [(h.get a0 a1).2]; exact j1)]
  · rw [if_neg c, if_neg c]
theorem at2_map {f : List Int → List Int} (h : Rect t n m) (i0 : 0 ≤ i) (i1 : i < n) : at2 (t.map f) i j = getA (f (getA t i)) j := by
  unfold at2
  rw [getA_map i0 (by rw [h.1]; exact i1)]
theorem at2_cAdd (h : Rect t n m) (b0 : 0 ≤ b) (b1 : b < m) (i0 : 0 ≤ i) (i1 : i < n) (j0 : 0 ≤ j) (j1 : j < m) : at2 (t.map (cAdd a q b)) i j = if j = b then at2 t i b + q * at2 t i a else at2 t i j := by
  rw [at2_map h i0 i1]
  unfold cAdd at2
  rw [getA_set b0 (by rw [(h.get i0 i1).2]; exact b1) j0 (by rw [(h.get i0 i1).2]; exact j1)]
theorem getA_swA {α : Type} [Inhabited α] {l : List α} (a0 : 0 ≤ a) (a1 : a < l.length) (b0 : 0 ≤ b) (b1 : b < l.length) (i0 : 0 ≤ i) (i1 : i < l.length) : getA (swA a b l) i = if i = b then getA l a else if i = a then getA l b else getA l i := by
  unfold swA
  rw [getA_set b0 (by rw [setA_len]; exact b1) i0 (by rw [setA_len]; exact i1), getA_set a0 a1 i0 i1]
theorem at2_swR (h : Rect t n m) (a0 : 0 ≤ a) (a1 : a < n) (b0 : 0 ≤ b) (b1 : b < n) (i0 : 0 ≤ i) (i1 : i < n) : at2 (swA a b t) i j = if i = b then at2 t a j else if i = a then at2 t b j else at2 t i j := by
  unfold at2
  rw [getA_swA a0 (by rw [h.1]; exact a1) b0 (by rw [h.1]; exact b1) i0 (by rw [h.1]; exact i1)]
  split
  · rfl
  · split <;> rfl
theorem at2_swC (h : Rect t n m) (a0 : 0 ≤ a) (a1 : a < m) (b0 : 0 ≤ b) (b1 : b < m) (i0 : 0 ≤ i) (i1 : i < n) (j0 : 0 ≤ j) (j1 : j < m) : at2 (t.map (swA a b)) i j = if j = b then at2 t i a else if j = a then at2 t i b else at2 t i j := by
  rw [at2_map h i0 i1]
  have e := (h.get i0 i1).2
  unfold at2
  rw [getA_swA a0 (by rw [e]; exact a1) b0 (by rw [e]; exact b1) j0 (by rw [e]; exact j1)]
end
section
variable {s : SS} {a b q : Int}
theorem shape_row_to (h : Shape s) (a0 : 0 ≤ a) (a1 : a < s.n) (b0 : 0 ≤ b) (b1 : b < s.n) : Shape (m_row_to s a q b) := ⟨rect_rAdd h.T a0 a1 b0 b1, rect_rAdd h.L a0 a1 b0 b1, h.Lb.map fun _ => cSub_len, h.R, h.Rb⟩
theorem shape_column_to (h : Shape s) (a0 : 0 ≤ a) (a1 : a < s.m) (b0 : 0 ≤ b) (b1 : b < s.m) : Shape (m_column_to s a q b) := ⟨h.T.map fun _ => cAdd_len, h.L, h.Lb, h.R.map fun _ => cAdd_len, rect_rSub h.Rb a0 a1 b0 b1⟩
theorem shape_rows_changed (h : Shape s) (a0 : 0 ≤ a) (a1 : a < s.n) (b0 : 0 ≤ b) (b1 : b < s.n) : Shape (m_rows_changed s a b) := ⟨rect_swA h.T a0 a1 b0 b1, rect_swA h.L a0 a1 b0 b1, h.Lb.map fun _ => swA_len, h.R, h.Rb⟩
theorem shape_columns_changed (h : Shape s) (a0 : 0 ≤ a) (a1 : a < s.m) (b0 : 0 ≤ b) (b1 : b < s.m) : Shape (m_columns_changed s a b) := ⟨h.T.map fun _ => swA_len, h.L, h.Lb, h.R.map fun _ => swA_len, rect_swA h.Rb a0 a1 b0 b1⟩
theorem shape_row_contrary (h : Shape s) (a0 : 0 ≤ a) (a1 : a < s.n) : Shape (m_row_contrary s a) := ⟨rect_rNeg h.T a0 a1, rect_rNeg h.L a0 a1, h.Lb.map fun _ => cNeg_len, h.R, h.Rb⟩
end
end TL

namespace TL
open PySem PySem.Spec PyProof.Rows L2
section
variable {s : SS} {step : Int}
theorem clR_at {x i j : Int} (h : Shape s) (s0 : 0 ≤ step) (s1 : step < s.n) (x0 : 0 ≤ x) (x1 : x < s.n) (i0 : 0 ≤ i) (i1 : i < s.n) (j0 : 0 ≤ j) (j1 : j < s.m) :
    at2 ((clR step s x).tb .T) i j = if i = x then at2 (s.tb .T) x j - Int.fdiv (at2 (s.tb .T) x step) (at2 (s.tb .T) step step) * at2 (s.tb .T) step j else at2 (s.tb .T) i j := by
  unfold clR
  split
  · show at2 (rAdd (s.tb .T) step _ x) i j = _
    rw [at2_rAdd h.T s0 s1 x0 x1 i0 i1 j0 j1, Int.neg_mul]
    rfl
  · rename_i c
    have c : Int.fdiv (at2 (s.tb .T) x step) (at2 (s.tb .T) step step) = 0 := Classical.byContradiction c
    rw [c, Int.zero_mul, Int.sub_zero]
    split
    · rename_i e; rw [e]
    · rfl
theorem clR_shape {x : Int} (h : Shape s) (s0 : 0 ≤ step) (s1 : step < s.n) (x0 : 0 ≤ x) (x1 : x < s.n) : Shape (clR step s x) := by
  unfold clR
  split
  · exact shape_row_to h s0 s1 x0 x1
  · exact h
theorem clC_at {x i j : Int} (h : Shape s) (s0 : 0 ≤ step) (s2 : step < s.m) (x0 : 0 ≤ x) (x1 : x < s.m) (i0 : 0 ≤ i) (i1 : i < s.n) (j0 : 0 ≤ j) (j1 : j < s.m) :
    at2 ((clC step s x).tb .T) i j = if j = x then at2 (s.tb .T) i x - Int.fdiv (at2 (s.tb .T) step x) (at2 (s.tb .T) step step) * at2 (s.tb .T) i step else at2 (s.tb .T) i j := by
  unfold clC
  split
  · show at2 ((s.tb .T).map (cAdd step _ x)) i j = _
    rw [at2_cAdd h.T x0 x1 i0 i1 j0 j1, Int.neg_mul]
    rfl
  · rename_i c
    have c : Int.fdiv (at2 (s.tb .T) step x) (at2 (s.tb .T) step step) = 0 := Classical.byContradiction c
    rw [c, Int.zero_mul, Int.sub_zero]
    split
    · rename_i e; rw [e]
    · rfl
theorem clC_shape {x : Int} (h : Shape s) (s0 : 0 ≤ step) (s2 : step < s.m) (x0 : 0 ≤ x) (x1 : x < s.m) : Shape (clC step s x) := by
  unfold clC
  split
  · exact shape_column_to h s0 s2 x0 x1
  · exact h
end
theorem clR_fold {step : Int} : ∀ (l : List Int) (s : SS), Shape s → 0 ≤ step → step < s.n → step < s.m → (∀ x ∈ l, step < x ∧ x < s.n) → l.Nodup →
    Shape (l.foldl (clR step) s) ∧ ∀ i j, 0 ≤ i → i < s.n → 0 ≤ j → j < s.m → at2 ((l.foldl (clR step) s).tb .T) i j = if i ∈ l then at2 (s.tb .T) i j - Int.fdiv (at2 (s.tb .T) i step) (at2 (s.tb .T) step step) * at2 (s.tb .T) step j else at2 (s.tb .T) i j
  | [], s, h, _, _, _, _, _ => ⟨h, fun i j _ _ _ _ => by rw [if_neg List.not_mem_nil]; rfl⟩
  | x :: l, s, h, s0, s1, s2, hl, nd => by
    obtain ⟨nx, nd2⟩ := List.nodup_cons.mp nd
    have hx := hl x List.mem_cons_self
    have x0 : 0 ≤ x := by omega
    have nm := clR_nm (s := s) (step := step) (row := x)
    have h' := clR_shape (x := x) h s0 s1 x0 hx.2
    have A := fun i j (i0 : 0 ≤ i) (i1 : i < s.n) (j0 : 0 ≤ j) (j1 : j < s.m) => clR_at (x := x) (i := i) (j := j) h s0 s1 x0 hx.2 i0 i1 j0 j1
    obtain ⟨k1, k2⟩ := clR_fold l (clR step s x) h' s0 (by rw [nm.1]; exact s1) (by rw [nm.2]; exact s2) (fun y hy => by rw [nm.1]; exact hl y (List.mem_cons_of_mem _ hy)) nd2
    refine ⟨k1, fun i j i0 i1 j0 j1 => ?_⟩
    rw [List.foldl_cons, k2 i j i0 (by rw [nm.1]; exact i1) j0 (by rw [nm.2]; exact j1)]
    have ns : step ≠ x := by omega
    rw [A step step s0 s1 s0 s2, if_neg ns, A step j s0 s1 j0 j1, if_neg ns, A i step i0 i1 s0 s2, A i j i0 i1 j0 j1]
    by_cases c : i = x
    · subst c
      rw [if_neg nx, if_pos rfl, if_pos List.mem_cons_self]
    · rw [if_neg c, if_neg c]
      by_cases d : i ∈ l
      · rw [if_pos d, if_pos (List.mem_cons_of_mem _ d)]
      · rw [if_neg d, if_neg (fun z => (List.mem_cons.mp z).elim c d)]
theorem clC_fold {step : Int} : ∀ (l : List Int) (s : SS), Shape s → 0 ≤ step → step < s.n → step < s.m → (∀ x ∈ l, step < x ∧ x < s.m) → l.Nodup →
    Shape (l.foldl (clC step) s) ∧ ∀ i j, 0 ≤ i → i < s.n → 0 ≤ j → j < s.m → at2 ((l.foldl (clC step) s).tb .T) i j = if j ∈ l then at2 (s.tb .T) i j - Int.fdiv (at2 (s.tb .T) step j) (at2 (s.tb .T) step step) * at2 (s.tb .T) i step else at2 (s.tb .T) i j
  | [], s, h, _, _, _, _, _ => ⟨h, fun i j _ _ _ _ => by rw [if_neg List.not_mem_nil]; rfl⟩
  | x :: l, s, h, s0, s1, s2, hl, nd => by
    obtain ⟨nx, nd2⟩ := List.nodup_cons.mp nd
    have hx := hl x List.mem_cons_self
    have x0 : 0 ≤ x := by omega
    have nm := clC_nm (s := s) (step := step) (row := x)
    have h' := clC_shape (x := x) h s0 s2 x0 hx.2
    have A := fun i j (i0 : 0 ≤ i) (i1 : i < s.n) (j0 : 0 ≤ j) (j1 : j < s.m) => clC_at (x := x) (i := i) (j := j) h s0 s2 x0 hx.2 i0 i1 j0 j1
    obtain ⟨k1, k2⟩ := clC_fold l (clC step s x) h' s0 (by rw [nm.1]; exact s1) (by rw [nm.2]; exact s2) (fun y hy => by rw [nm.2]; exact hl y (List.mem_cons_of_mem _ hy)) nd2
    refine ⟨k1, fun i j i0 i1 j0 j1 => ?_⟩
    rw [List.foldl_cons, k2 i j i0 (by rw [nm.1]; exact i1) j0 (by rw [nm.2]; exact j1)]
    have ns : step ≠ x := by omega
    rw [A step step s0 s1 s0 s2, if_neg ns, A i step i0 i1 s0 s2, if_neg ns, A step j s0 s1 j0 j1, A i j i0 i1 j0 j1]
    by_cases c : j = x
    · subst c
      rw [if_neg nx, if_pos rfl, if_pos List.mem_cons_self]
    · rw [if_neg c, if_neg c]
      by_cases d : j ∈ l
      · rw [if_pos d, if_pos (List.mem_cons_of_mem _ d)]
      · rw [if_neg d, if_neg (fun z => (List.mem_cons.mp z).elim c d)]
theorem rng2_nodup (a b : Int) : (rng2 a b).Nodup := by
  unfold rng2
  refine List.pairwise_map.mpr (List.Pairwise.imp ?_ (List.nodup_range (n := (b - a).toNat)))
  intro i j h e
  exact h (by omega)
theorem mem_rng2_iff {a b k : Int} : k ∈ rng2 a b ↔ a ≤ k ∧ k < b := by
  refine ⟨mem_rng2, fun h => ?_⟩
  unfold rng2
  exact List.mem_map.mpr ⟨(k - a).toNat, List.mem_range.mpr (by omega), by omega⟩
theorem cleared_at {s : SS} {step i j : Int} (h : Shape s) (s0 : 0 ≤ step) (s1 : step < s.n) (s2 : step < s.m) (i0 : 0 ≤ i) (i1 : i < s.n) (j0 : 0 ≤ j) (j1 : j < s.m) :
    at2 ((m_cleared s step).tb .T) i j =
      (if step < i then at2 (s.tb .T) i j - Int.fdiv (at2 (s.tb .T) i step) (at2 (s.tb .T) step step) * at2 (s.tb .T) step j else at2 (s.tb .T) i j) -
      (if step < j then Int.fdiv (at2 (s.tb .T) step j) (at2 (s.tb .T) step step) * (if step < i then at2 (s.tb .T) i step - Int.fdiv (at2 (s.tb .T) i step) (at2 (s.tb .T) step step) * at2 (s.tb .T) step step else at2 (s.tb .T) i step) else 0) := by
  have hl1 : ∀ x ∈ rng2 (step + 1) s.n, step < x ∧ x < s.n := fun x hx => by have := mem_rng2 hx; omega
  obtain ⟨h1, A⟩ := clR_fold (rng2 (step + 1) s.n) s h s0 s1 s2 hl1 (rng2_nodup _ _)
  have nm := fold_nm (f := clR step) (fun _ _ => clR_nm) (rng2 (step + 1) s.n) s
  unfold m_cleared
  generalize (rng2 (step + 1) s.n).foldl (clR step) s = s' at h1 A nm
  obtain ⟨h2, B⟩ := clC_fold (rng2 (step + 1) s.m) s' h1 s0 (by rw [nm.1]; exact s1) (by rw [nm.2]; exact s2) (fun x hx => by have := mem_rng2 hx; rw [nm.2]; omega) (rng2_nodup _ _)
  rw [B i j i0 (by rw [nm.1]; exact i1) j0 (by rw [nm.2]; exact j1), A step j s0 s1 j0 j1, A step step s0 s1 s0 s2, A i step i0 i1 s0 s2, A i j i0 i1 j0 j1]
  have ns : step ∉ rng2 (step + 1) s.n := fun z => by have := mem_rng2 z; omega
  rw [if_neg ns, if_neg ns]
  have ei : (i ∈ rng2 (step + 1) s.n) ↔ step < i := by rw [mem_rng2_iff]; omega
  have ej : (j ∈ rng2 (step + 1) s.m) ↔ step < j := by rw [mem_rng2_iff]; omega
  by_cases c : step < j
  · rw [if_pos (ej.mpr c), if_pos c]
    by_cases d : step < i
    · rw [if_pos (ei.mpr d), if_pos (ei.mpr d), if_pos d, if_pos d]
    · rw [if_neg (fun z => d (ei.mp z)), if_neg (fun z => d (ei.mp z)), if_neg d, if_neg d]
  · rw [if_neg (fun z => c (ej.mp z)), if_neg c, Int.sub_zero]
    by_cases d : step < i
    · rw [if_pos (ei.mpr d), if_pos d]
    · rw [if_neg (fun z => d (ei.mp z)), if_neg d]
theorem cleared_shape {s : SS} {step : Int} (h : Shape s) (s0 : 0 ≤ step) (s1 : step < s.n) (s2 : step < s.m) : Shape (m_cleared s step) := by
  have hl1 : ∀ x ∈ rng2 (step + 1) s.n, step < x ∧ x < s.n := fun x hx => by have := mem_rng2 hx; omega
  obtain ⟨h1, A⟩ := clR_fold (rng2 (step + 1) s.n) s h s0 s1 s2 hl1 (rng2_nodup _ _)
  have nm := fold_nm (f := clR step) (fun _ _ => clR_nm) (rng2 (step + 1) s.n) s
  unfold m_cleared
  generalize (rng2 (step + 1) s.n).foldl (clR step) s = s' at h1 A nm
  exact (clC_fold (rng2 (step + 1) s.m) s' h1 s0 (by rw [nm.1]; exact s1) (by rw [nm.2]; exact s2) (fun x hx => by have := mem_rng2 hx; rw [nm.2]; omega) (rng2_nodup _ _)).1
end TL

namespace TL
open PySem PySem.Spec PyProof.Rows L2
inductive Refix : List Ent → List Ent → Prop
  | nil : Refix [] []
  | drop {e : Ent} {G G' : List Ent} : Refix G G' → Refix (e :: G) (.any :: G')
  | keep {e : Ent} {G G' : List Ent} : Refix G G' → Refix (e :: G) (e :: G')
  | age {Bx : Hp} {α : Type} {r : Rp α} {a : α} {G G' : List Ent} : Refix G G' → Refix (.dat (rAge Bx r) a :: G) (.dat r a :: G')
  | told {Pa : Addr → Prop} {α : Type} {F : RF α} {r : Rp α} {a : α} {G G' : List Ent} (ft : Fits F r) : Refix G G' → Refix (.dat (rTold Pa F) a :: G) (.dat r a :: G')
theorem Refix.get {G G' : List Ent} (h : Refix G G') : ∀ {i : Nat} {e : Ent}, G'[i]? = some e → e = .any ∨ G[i]? = some e ∨ ∃ (α : Type) (r r0 : Rp α) (a : α), e = .dat r a ∧ G[i]? = some (.dat r0 a) ∧ ∀ B v, r0.rel B v a → r.rel B v a := by
  induction h with
  | nil => intro i e h; cases h
  | drop h ih =>
    intro i e hi
    cases i with
    | zero => cases hi; exact .inl rfl
    | succ i => exact ih hi
  | keep h ih =>
    intro i e hi
    cases i with
    | zero => cases hi; exact .inr (.inl rfl)
    | succ i => exact ih hi
  | age h ih =>
    intro i e hi
    cases i with
    | zero => cases hi; exact .inr (.inr ⟨_, _, _, _, rfl, rfl, fun B v h => Rp.mono _ h.2 h.1⟩)
    | succ i => exact ih hi
  | told ft h ih =>
    intro i e hi
    cases i with
    | zero => cases hi; exact .inr (.inr ⟨_, _, _, _, rfl, rfl, fun B v h => by
        obtain ⟨L, h1, _⟩ := h
        exact ft h1⟩)
    | succ i => exact ih hi
theorem Refix.len {G G' : List Ent} (h : Refix G G') : G.length = G'.length := by
  induction h with
  | nil => rfl
  | drop h ih => exact congrArg (· + 1) ih
  | keep h ih => exact congrArg (· + 1) ih
  | age h ih => exact congrArg (· + 1) ih
  | told ft h ih => exact congrArg (· + 1) ih
section
variable {X : Cx} {C : C0} {G G1 : List Ent} {α : Type} {r : Rp α} {e : Expr} {rest : List Stmt} {D : Ends} {x : Str} {i : Nat} {p pos apos cpos : Pos}
end
end TL

namespace TL
open PySem PySem.Spec PyProof.Rows L2
section
variable {X : Cx} {C : C0} {G G1 : List Ent} {α : Type} {r : Rp α} {e b b2 : Expr} {rest : List Stmt} {D : Ends} {x : Str} {i : Nat} {p pos apos cpos spos spos2 : Pos}
theorem retNo {en : Ent} (i : Nat) (h : G[i]? = some (.dat rNo ())) : RetOk C D G en := fun v B H σ O _ _ => by
  obtain ⟨ov, hs, u, e1, e2⟩ := O.slot h
  exact e2.elim
end
end TL

namespace TL
open PySem PySem.Spec PyProof.Rows L2
def fLs {α : Type} (r : Rp α) : RF (List α) where
  rel := fun B v l L => ∃ p ws, v = .ref p ∧ L = [p] ∧ B p = some (.lst ws) ∧ Paired (r.rel B) ws l
  mono := fun s h => by
    obtain ⟨p, ws, e1, e2, e3, e4⟩ := h
    exact ⟨p, ws, e1, e2, s _ _ e3, paired_mono s e4⟩
  lst := fun {B v l L} h q hq => by
    obtain ⟨p, ws, e1, e2, e3, e4⟩ := h
    subst e2
    rw [List.mem_singleton.mp hq]; exact ⟨_, e3, rfl⟩
theorem fits_Ls {α : Type} {r : Rp α} : Fits (fLs r) (rL r) := fun h => by
  obtain ⟨p, ws, e1, e2, e3, e4⟩ := h
  exact ⟨p, ws, e1, e3, e4⟩
section
variable {X : Cx} {C : C0} {G G1 : List Ent} {α β : Type} {r : Rp α} {s : Rp β} {a b e : Expr} {rest : List Stmt} {D : Ends} {x y : Str} {i : Nat} {p pos apos cpos px py pt pt2 : Pos}
theorem x_papS {v : Pap} {j : Nat} (ha : XE X C a G G1 (.tld fPap v)) : XE X C (.Subscript a (.Constant (.int (4 : Int)) j p) pos) G G1 (.tld (fLs TL.rI) v.2.2.2.2) :=
  x_of (pe_ix ix_tup (pe_w a) (pe_w _) (fun _ _ => rfl)) (fun B H σ O Q q => ha B H σ O _ fun w B1 H1 O1 s1 hw _ => (show XE X C (.Constant (.int (4 : Int)) j p) G1 G1 (.dat TL.rI (4 : Int)) from x_int).go O1 fun z B2 H2 O2 s2 hz => by
    obtain ⟨u, L, e1, e2, e3, e4⟩ := hw
    cases e1
    obtain ⟨t, q0, x0, qs, h1, h2, h3, h4, h5, h6, h7, h8⟩ := e2
    subst h1
    have h2' := s2 _ _ h2
    refine ⟨t, _, (4 : Int), .ref q0, rfl, hz, SqT.of (O2.g.kn.x h2' rfl), rfl, q _ B2 H2 O2 (s1.trans s2) ⟨.ref q0, [q0], rfl, ⟨q0, _, rfl, rfl, s2 _ _ h3, ints_paired _⟩, List.nodup_cons.mpr ⟨List.not_mem_nil, List.nodup_nil⟩, fun z hz => ?_⟩ (fun m => nomatch m)⟩
    rw [List.mem_singleton.mp hz]
    exact e4 q0 (by rw [h8]; exact List.mem_cons_self))
theorem gs_lsApp {P : Addr → Prop} (i : Nat) {l : List α} {v : β} (hP : ∀ q, P q ↔ Fresh C q) (he : XE X C e G G1 (.dat s v)) (h0 : G[i]? = some (.dat (rTold P (fLs r)) l)) (h1 : G1[i]? = some (.dat (rTold P (fLs r)) l)) (fm : FirmG C.B1 (G1.set i .any))
    (hz : l.length < sizeLine) (k : GS X C (G1.set i .any) rest D)
    (hN : X.N[i]? = some x := by rfl) (hv : Vis X.env.scope x := by first | exact Or.inl rfl | exact Or.inr (Or.inl rfl) | exact Or.inr (Or.inr rfl)) (hd : (x == ("__debug__" : Str)) = false := by decide) (hcd : (x == ("__classdict__" : Str)) = false := by decide)
    (hbase : attributeBase (.Name x p) "append" X.env (eval (.Name x p) X.env) = eval (.Name x p) X.env := by rfl)
    (hfew : ((backTo cpos (starEach [e] X.env)).all (fun x => !x.1) && (backToKw cpos (keywordEach [] X.env)).all (fun x => x.1.isSome) && decide (([e] : List Expr).length + ([] : List Keyword).length + (if ([] : List Keyword).isEmpty then 0 else 1) < 30)) = true := by rfl)
    (hline : (apos.endLine == cpos.line) = true := by rfl) (hs : starEach [e] X.env = (false, eval e X.env) :: starEach [] X.env := by rfl) (hplain : (backTo cpos (starEach [] X.env)).any (·.1) = false := by rfl)
    (hsw : swapsWith (.Call (.Attribute (.Name x p) "append" apos) [e] [] cpos) none pos.line X.env = pure false := by rfl) :
    GS X C G (.Expr (.Call (.Attribute (.Name x p) "append" apos) [e] [] cpos) pos :: rest) D := fun B H σ O =>
  w_ps (ps_expr (pe_bm PySem.F.plainAttrs_list PySem.F.slot_list_append PySem.F.type_list_append mt_append (pe_var hN hv hd hcd) (pa_cons (pe_w e) pa_nil hs) hbase hfew hline hs hplain) hsw) (by
    obtain ⟨ov, hs0, v0, rfl, L, ⟨pp, ws, rfl, rfl, hp, hpr⟩, nd, hPq⟩ := O.slot h0
    refine ⟨.ref pp, hs0, .inl ⟨rfl, ws, SqL.of (O.g.kn.x hp rfl)⟩, he.go O fun u B2 H2 O2 s2 hu => ?_⟩
    have b2 := s2 _ _ hp
    have hlt : ws.length < sizeLine := by rw [hpr.length]; exact hz
    refine ⟨pp, _, u, rfl, rfl, O2.g.kn.x b2 rfl, hlt, ?_⟩
    obtain ⟨O3, _, _⟩ := (O2.drop (i := i)).chg fm ((hP pp).mp (hPq pp List.mem_cons_self)) b2 (ws' := ws ++ [u]) (by rw [List.length_append]; exact hlt)
    exact k _ _ _ O3)
theorem gs_par {j : Nat} {v : α} {w : β} {kt k2 : Nat} (i0 : Nat) (hN : X.N.Nodup) (hi : X.N[i0]? = some x) (hj : X.N[j]? = some y) (hij : i0 ≠ j) (ha : XA X C [a, b] G G1 [.d r v, .d s w]) (k : GS X C ((G1.set i0 (.dat r v)).set j (.dat s w)) rest D)
    (hx : X.env.scope.names.lookup x = some .local := by rfl) (hy : X.env.scope.names.lookup y = some .local := by rfl) (hc : X.calm = true := by rfl)
    (hw : swappedStores [.Tuple [.Name x px, .Name y py] kt pt] (.Tuple [a, b] k2 pt2) X.env = pure (some [x, y]) := by rfl)
    (hs : swapsWithSole [.Tuple [.Name x px, .Name y py] kt pt] (.Tuple [a, b] k2 pt2) pos.line X.env = pure false := by rfl) :
    GS X C G (.Assign [.Tuple [.Name x px, .Name y py] kt pt] (.Tuple [a, b] k2 pt2) pos :: rest) D := fun B H σ O =>
  w_ps (ps_par hc hN hi hj hij hx hy (pa_w _) hw hs) (ha B H σ O _ fun vs B1 H1 O1 s1 hvs => by
    cases hvs with
    | cons h1 h2 => cases h2 with
      | cons h3 h4 => cases h4 with
        | nil => exact ⟨_, _, rfl, k B1 H1 _ ((O1.storeD h1).storeD h3)⟩)
theorem x_ltlt {c : Expr} {i j k : Int} (ha : XE X C a G G (.dat TL.rI i)) (hb : XE X C b G G (.dat TL.rI j)) (hc : XE X C c G G (.dat TL.rI k)) (hm : lastMarks [.Lt, .Lt] [b, c] = false := by with_unfolding_all rfl) : XE X C (.Compare a [.Lt, .Lt] [b, c] pos) G G (.dat TL.rB (decide (i < j) && decide (j < k))) :=
  x_of (pe_chain op_lt op_lt (pe_w a) (pe_w b) (pe_w c) hm) (ev_chain (p := fun i j => decide (i < j)) (p' := fun i j => decide (i < j)) ha hb hc rfl rfl)
end
end TL

namespace My
open PySem PySem.Spec PyProof.Rows L2 TL
def topS (i : Nat) : Stmt := PySem.Challenge.pw_seamwright_k22_steps_by_little_squares.main.body.getD i (.Pass ⟨0, 0, 0, 0⟩)
abbrev s_width : Stmt := topS 10
abbrev s_is_table : Stmt := topS 11
abbrev s_must_be_table : Stmt := topS 12
abbrev s_even : Stmt := topS 13
abbrev s_paper_of : Stmt := topS 17
abbrev s_stepped : Stmt := topS 18
abbrev s_steps_of : Stmt := topS 19
abbrev s_rank : Stmt := topS 20
abbrev s_is_prime : Stmt := topS 21
abbrev s_must_be_prime : Stmt := topS 22
abbrev s_rank_by : Stmt := topS 23
abbrev s__law_cell_at : Stmt := topS 25
abbrev s__law_box : Stmt := topS 26
abbrev s__law_take : Stmt := topS 27
abbrev s__law_row : Stmt := topS 28
abbrev s__law_table : Stmt := topS 29
abbrev s__law_wide : Stmt := topS 30
abbrev s__law_whole : Stmt := topS 31
abbrev s__law_row_like : Stmt := topS 32
abbrev s__law_which : Stmt := topS 34
abbrev s__law_common : Stmt := topS 35
abbrev s__law_determinant : Stmt := topS 36
abbrev s__law_choices : Stmt := topS 37
abbrev s__law_divisor : Stmt := topS 38
abbrev s__law_steps : Stmt := topS 39
abbrev s__law_asked : Stmt := topS 40
abbrev s_law : Stmt := topS 41
abbrev s_stInit : Stmt := inClass (topS 16) 0
abbrev s_row_to : Stmt := inClass (topS 16) 1
abbrev s_column_to : Stmt := inClass (topS 16) 2
abbrev s_rows_changed : Stmt := inClass (topS 16) 3
abbrev s_columns_changed : Stmt := inClass (topS 16) 4
abbrev s_row_contrary : Stmt := inClass (topS 16) 5
abbrev s_least_from : Stmt := inClass (topS 16) 6
abbrev s_is_clear : Stmt := inClass (topS 16) 7
abbrev s_cleared : Stmt := inClass (topS 16) 8
abbrev s_undivided : Stmt := inClass (topS 16) 9
abbrev s_do : Stmt := inClass (topS 16) 10
abbrev s_paper : Stmt := inClass (topS 16) 11
def ERS : List Er := [.table, .number]
structure Txs (K : PySem.W.Frag) (mg : Str → Option Value) : Prop where
  d_width : DefAt K mg "width" s_width ["table"]
  d_is_table : DefAt K mg "is_table" s_is_table ["table"]
  d_must_be_table : DefAt K mg "must_be_table" s_must_be_table ["table"]
  d_even : DefAt K mg "even" s_even ["size"]
  d_paper_of : DefAt K mg "paper_of" s_paper_of ["table", "rows", "columns"]
  d_stepped : DefAt K mg "stepped" s_stepped ["table"]
  d_steps_of : DefAt K mg "steps_of" s_steps_of ["table"]
  d_rank : DefAt K mg "rank" s_rank ["table"]
  d_is_prime : DefAt K mg "is_prime" s_is_prime ["number"]
  d_must_be_prime : DefAt K mg "must_be_prime" s_must_be_prime ["number"]
  d_rank_by : DefAt K mg "rank_by" s_rank_by ["table", "prime"]
  d__law_cell_at : DefAt K mg "_law_cell_at" s__law_cell_at ["script", "k"]
  d__law_box : DefAt K mg "_law_box" s__law_box ["cell"]
  d__law_take : DefAt K mg "_law_take" s__law_take ["box", "most"]
  d__law_row : DefAt K mg "_law_row" s__law_row ["box", "columns", "wide"]
  d__law_table : DefAt K mg "_law_table" s__law_table ["box", "most"]
  d__law_wide : DefAt K mg "_law_wide" s__law_wide ["table"]
  d__law_whole : DefAt K mg "_law_whole" s__law_whole ["found"]
  d__law_row_like : DefAt K mg "_law_row_like" s__law_row_like ["found"]
  d__law_which : DefAt K mg "_law_which" s__law_which ["e"]
  d__law_common : DefAt K mg "_law_common" s__law_common ["one", "other"]
  d__law_determinant : DefAt K mg "_law_determinant" s__law_determinant ["rows"]
  d__law_choices : DefAt K mg "_law_choices" s__law_choices ["size", "many"]
  d__law_divisor : DefAt K mg "_law_divisor" s__law_divisor ["table", "many"]
  d__law_steps : DefAt K mg "_law_steps" s__law_steps ["table"]
  d__law_asked : DefAt K mg "_law_asked" s__law_asked ["table", "prime"]
  d_law : DefAt K mg "law" s_law ["script"]
  cls : StCls K mg
  mkS : ∃ (CA f : Addr) (fd : FuncData), mg "Stepper" = some (.ref CA) ∧ Mk K CA f ∧ Fun K "__init__" "Stepper.__init__" s_stInit f fd ∧ Binds K fd ["self", "table", "rows", "columns"] []
  c_row_to : MDef K mg "row_to" "Stepper.row_to" s_row_to ["self", "one", "often", "other"]
  c_column_to : MDef K mg "column_to" "Stepper.column_to" s_column_to ["self", "one", "often", "other"]
  c_rows_changed : MDef K mg "rows_changed" "Stepper.rows_changed" s_rows_changed ["self", "one", "other"]
  c_columns_changed : MDef K mg "columns_changed" "Stepper.columns_changed" s_columns_changed ["self", "one", "other"]
  c_row_contrary : MDef K mg "row_contrary" "Stepper.row_contrary" s_row_contrary ["self", "one"]
  c_least_from : MDef K mg "least_from" "Stepper.least_from" s_least_from ["self", "step"]
  c_is_clear : MDef K mg "is_clear" "Stepper.is_clear" s_is_clear ["self", "step"]
  c_cleared : MDef K mg "cleared" "Stepper.cleared" s_cleared ["self", "step"]
  c_undivided : MDef K mg "undivided" "Stepper.undivided" s_undivided ["self", "step"]
  c_do : MDef K mg "do" "Stepper.do" s_do ["self", "step"]
  c_paper : MDef K mg "paper" "Stepper.paper" s_paper ["self"]
  b_ValueError : mg "ValueError" = none
  b_abs : mg "abs" = none
  b_all : mg "all" = none
  b_any : mg "any" = none
  b_bool : mg "bool" = none
  b_int : mg "int" = none
  b_isinstance : mg "isinstance" = none
  b_len : mg "len" = none
  b_list : mg "list" = none
  b_min : mg "min" = none
  b_range : mg "range" = none
  b_zip : mg "zip" = none
  c_MOST : ∃ t, mg "MOST" = some (.int 40 t)
  c_MOST_PRIME : ∃ t, mg "MOST_PRIME" = some (.int 100 t)
  e_number : ErAt K mg .number
  e_table : ErAt K mg .table
  catch_SeamError : ErIn K mg "SeamError" fun e => e ∈ ERS
  isv : ∀ ev, ev ∈ ERS → IsVE K mg ev
  isa : ∀ ev, ev ∈ ERS → ∀ c, c ∈ [Er.table, Er.goal, Er.number, Er.web, Er.chain, Er.piece] → IsAt K mg ev c
end My

namespace My
open PySem PySem.Spec PyProof.Rows L2 TL
def m_width (table : (List (List Int))) : Int :=
  (if (decide (((table).length : Int) = (0 : Int))) = true then (0 : Int) else (((getA table (0 : Int))).length : Int))
def sp_width : FS ((List (List Int))) := { args := fun x => [.dat (rL (rL TL.rI)) x], res := fun x => .dat TL.rI (m_width x) }
abbrev n_width : List Str := ["table"]
theorem sc_width : FnScope n_width ["table"] (defScope s_width) := ⟨rfl, rfl, rfl, by decide +kernel, rfl, by decide +kernel, by decide +kernel⟩
section
variable {P : Program} {w : World} {K : PySem.W.Frag} {mg : Str → Option Value} {base : Heap}
theorem fn_width (T : Txs K mg) {f : Addr} {fd : FuncData} (Fn : Fun K "width" "width" s_width f fd) : FnOk P w K mg base CX0 1 f fd ["table"] (sp_width).sp := by
  refine fs_ok Fn sc_width (fun _ => rfl) (fun _ => rfl) fun cdv_ A_ outer_ s_ H_ E_ table C_ D_ hr hret hnx => ?_
  have hu65 := hu65_of hr; have hu64 := hu64_of hr; have hu1 := hu1_of hr
  refine gs_G (G' := [.dat (rL (rL TL.rI)) table]) rfl ?_
  refine gs_if (t_eq (x_len T.b_len (rl_dat (x_var 0 rfl))) x_int) (fun h1 => ?_) (fun h1 => ?_)
  · have _ := h1
    exact gs_ret x_int (hret _ _ ⟨congrArg (fun z => (Ent.dat TL.rI z : Ent)) (show (0 : Int) = m_width table from Eq.symm ((ifp h1))), rfl, posted_any⟩)
  refine gs_nil ?_
  exact gs_ret (x_len T.b_len (rl_dat (x_ixL (rl_dat (x_var 0 rfl)) x_int (getA_at (l := table) (i := (0 : Int)) (by first | omega | (show _ ≤ 16777216; omega) | (show _ < 16777216; omega) | (simp only [Bool.and_eq_true, Bool.not_eq_true', Bool.not_eq_false', Bool.or_eq_false_iff, Bool.and_eq_false_iff, decide_eq_true_eq, decide_eq_false_iff_not] at *; omega) | decide +kernel | (show (0 : Int) < (10 : Int) ^ ((9 : Int)).toNat ∧ (10 : Int) ^ ((9 : Int)).toNat < 1000000000000000000000; decide)) (by first | omega | (show _ ≤ 16777216; omega) | (show _ < 16777216; omega) | (simp only [Bool.and_eq_true, Bool.not_eq_true', Bool.not_eq_false', Bool.or_eq_false_iff, Bool.and_eq_false_iff, decide_eq_true_eq, decide_eq_false_iff_not] at *; omega) | decide +kernel | (show (0 : Int) < (10 : Int) ^ ((9 : Int)).toNat ∧ (10 : Int) ^ ((9 : Int)).toNat < 1000000000000000000000; decide)))))) (hret _ _ ⟨congrArg (fun z => (Ent.dat TL.rI z : Ent)) (show (((getA table (0 : Int))).length : Int) = m_width table from Eq.symm ((ifn h1))), rfl, posted_any⟩)
theorem ok_width (T : Txs K mg) : Callee P w K mg base CX0 "width" ["table"] (sp_width).sp 1 := by
  obtain ⟨f, fd, Fn, hm, hb⟩ := T.d_width.ex
  exact ⟨f, fd, fn_width T Fn, hm, Fn.kp, hb⟩
end
end My

namespace My
open PySem PySem.Spec PyProof.Rows L2 TL
def m_is_table (table : (List (List Int))) : Bool :=
  (if ((decide ((40 : Int) < ((table).length : Int))) || (decide ((40 : Int) < (m_width table)))) = true then false else (((List.map (fun (row : (List Int)) => (decide (((row).length : Int) = (m_width table)))) table)).all id))
def sp_is_table : FS ((List (List Int))) := { args := fun x => [.dat (rL (rL TL.rI)) x], res := fun x => .dat TL.rB (m_is_table x) }
abbrev n_is_table : List Str := ["table", "row"]
theorem sc_is_table : FnScope n_is_table ["table"] (defScope s_is_table) := ⟨rfl, rfl, rfl, by decide +kernel, rfl, by decide +kernel, by decide +kernel⟩
section
variable {P : Program} {w : World} {K : PySem.W.Frag} {mg : Str → Option Value} {base : Heap}
theorem fn_is_table (T : Txs K mg) {f : Addr} {fd : FuncData} (Fn : Fun K "is_table" "is_table" s_is_table f fd) : FnOk P w K mg base CX0 2 f fd ["table"] (sp_is_table).sp := by
  refine fs_ok Fn sc_is_table (fun _ => rfl) (fun _ => rfl) fun cdv_ A_ outer_ s_ H_ E_ table C_ D_ hr hret hnx => ?_
  have hu65 := hu65_of hr; have hu64 := hu64_of hr; have hu1 := hu1_of hr
  refine gs_G (G' := [.dat (rL (rL TL.rI)) table, .any]) rfl ?_
  refine gs_if (t_w (w_or (t_gt (x_len T.b_len (rl_dat (x_var 0 rfl))) (x_globI T.c_MOST.choose_spec)) (fun hb => (w_or1 (t_gt (x_call (ok_width T) (hr.mono (by decide)) (table) (a_cons (x_var 0 rfl) a_nil) (.cons .nil) rfl) (x_globI T.c_MOST.choose_spec)))))) (fun h1 => ?_) (fun h1 => ?_)
  · have _ := h1
    exact gs_ret x_bl (hret _ _ ⟨congrArg (fun z => (Ent.dat TL.rB z : Ent)) (show false = m_is_table table from Eq.symm ((ifp h1))), rfl, posted_any⟩)
  refine gs_nil ?_
  exact gs_ret (x_all T.b_all (rl_dat (x_lst (x_lc0 (s := TL.rB) (f := (fun (row : (List Int)) => (decide (((row).length : Int) = (m_width table))))) 1 (k_list (x_var 0 rfl)) (noOwn_cons rfl rfl noOwn_nil) (fun C1 row hv _ _ _ _ _ => (x_eq (x_len T.b_len (rl_dat (x_var 1 rfl))) (x_call (ok_width T) (hr.mono (by decide)) (table) (a_cons (x_var 0 rfl) a_nil) (.cons .nil) rfl))) sc_is_table.nd (blkOk_by (N := n_is_table) (sc := defScope s_is_table) (by decide +kernel)) (fun _ _ _ _ _ => pg_name sc_is_table.nd rfl (Or.inl rfl)))))) (hret _ _ ⟨congrArg (fun z => (Ent.dat TL.rB z : Ent)) (show (((List.map (fun (row : (List Int)) => (decide (((row).length : Int) = (m_width table)))) table)).all id) = m_is_table table from Eq.symm ((ifn h1))), rfl, posted_any⟩)
theorem ok_is_table (T : Txs K mg) : Callee P w K mg base CX0 "is_table" ["table"] (sp_is_table).sp 2 := by
  obtain ⟨f, fd, Fn, hm, hb⟩ := T.d_is_table.ex
  exact ⟨f, fd, fn_is_table T Fn, hm, Fn.kp, hb⟩
end
end My

namespace My
open PySem PySem.Spec PyProof.Rows L2 TL
def m_must_be_table (table : (List (List Int))) : (Except Er Unit) :=
  (if (!(m_is_table table)) = true then (Except.error Er.table) else (Except.ok ()))
theorem ers_must_be_table {table : (List (List Int))} : EI ERS (m_must_be_table table) := by
  unfold m_must_be_table
  repeat' (first | exact ei_ok | exact ei_er (by decide)  | apply ei_ite | refine ei_then ?_ fun _ => ?_ | refine ei_mapE fun _ => ?_)
theorem must_tb {t : List (List Int)} {v : Unit} (h : m_must_be_table t = .ok v) : m_is_table t = true := by
  unfold m_must_be_table at h
  cases e : m_is_table t with
  | true => rfl
  | false => rw [e] at h; cases h
abbrev sp_must_be_table (mg : Str → Option Value) : FS ((List (List Int))) := FS.ofE mg (fun x => [.dat (rL (rL TL.rI)) x]) (fun x => (m_must_be_table x)) (fun v => .dat TL.rN v)
abbrev n_must_be_table : List Str := ["table"]
theorem sc_must_be_table : FnScope n_must_be_table ["table"] (defScope s_must_be_table) := ⟨rfl, rfl, rfl, by decide +kernel, rfl, by decide +kernel, by decide +kernel⟩
section
variable {P : Program} {w : World} {K : PySem.W.Frag} {mg : Str → Option Value} {base : Heap}
theorem fn_must_be_table (T : Txs K mg) {f : Addr} {fd : FuncData} (Fn : Fun K "must_be_table" "must_be_table" s_must_be_table f fd) : FnOk P w K mg base (L2.CX P w) 3 f fd ["table"] (sp_must_be_table mg).sp := by
  refine fs_okX2 Fn sc_must_be_table (fun _ => rfl) fun cdv_ A_ outer_ s_ H_ E_ table C_ D_ W_ hr tk0 hpo0 hret hnx hrz => ?_
  have hu65 := hu65_of hr; have hu64 := hu64_of hr; have hu1 := hu1_of hr
  refine gs_G (G' := [.dat (rL (rL TL.rI)) table]) rfl ?_
  refine gs_if (t_not (t_v (x_call (ok_is_table T) (hr.mono (by decide)) (table) (a_cons (x_var 0 rfl) a_nil) (.cons .nil) rfl))) (fun h1 => ?_) (fun h1 => ?_)
  · have _ := h1
    exact gs_raise (nm := "NoTable") T.e_table tk0 rfl (fun B H σ O => hrz _ (ofE_er (show m_must_be_table table = .error .table from ((ifp h1)))) _ B H σ O.bare)
  refine gs_nil ?_
  exact gs_endN (hnx _ (endE (show m_must_be_table table = .ok () from ((ifn h1)))))
theorem ok_must_be_table (T : Txs K mg) : Callee P w K mg base (L2.CX P w) "must_be_table" ["table"] (sp_must_be_table mg).sp 3 := by
  obtain ⟨f, fd, Fn, hm, hb⟩ := T.d_must_be_table.ex
  exact ⟨f, fd, fn_must_be_table T Fn, hm, Fn.kp, hb⟩
end
end My

namespace My
open PySem PySem.Spec PyProof.Rows L2 TL
def m_even (size : Int) : (List (List Int)) :=
  (List.map (fun (place : Int) => (List.map (fun (other : Int) => (if (decide (place = other)) then (1 : Int) else 0)) (rng size))) (rng size))
def sp_even : FS ({x : Int // 0 ≤ x ∧ x ≤ 1000}) := { args := fun x => [.dat TL.rI x.1], res := fun x => .tld (fTb TL.rI) (m_even x.1) }
abbrev n_even : List Str := ["size", "other", "place"]
theorem sc_even : FnScope n_even ["size"] (defScope s_even) := ⟨rfl, rfl, rfl, by decide +kernel, rfl, by decide +kernel, by decide +kernel⟩
section
variable {P : Program} {w : World} {K : PySem.W.Frag} {mg : Str → Option Value} {base : Heap}
theorem fn_even (T : Txs K mg) {f : Addr} {fd : FuncData} (Fn : Fun K "even" "even" s_even f fd) : FnOk P w K mg base CX0 1 f fd ["size"] (sp_even).sp := by
  refine fs_ok Fn sc_even (fun _ => rfl) (fun _ => rfl) fun cdv_ A_ outer_ s_ H_ E_ x_ C_ D_ hr hret hnx => ?_
  have hu65 := hu65_of hr; have hu64 := hu64_of hr; have hu1 := hu1_of hr
  obtain ⟨size, hpre⟩ := x_
  refine gs_G (G' := [.dat TL.rI size, .any, .any]) rfl ?_
  exact gs_ret (x_lc0T (s := TL.rI) (f := (fun (place : Int) => (List.map (fun (other : Int) => (if (decide (place = other)) then (1 : Int) else 0)) (rng size)))) 2 (k_rng1 (n := size) T.b_range (a_cons (x_var 0 rfl) a_nil) (by first | omega | (show _ ≤ 16777216; omega) | (show _ < 16777216; omega) | (simp only [Bool.and_eq_true, Bool.not_eq_true', Bool.not_eq_false', Bool.or_eq_false_iff, Bool.and_eq_false_iff, decide_eq_true_eq, decide_eq_false_iff_not] at *; omega) | decide +kernel | (show (0 : Int) < (10 : Int) ^ ((9 : Int)).toNat ∧ (10 : Int) ^ ((9 : Int)).toNat < 1000000000000000000000; decide))) (noOwn_cons rfl rfl noOwn_nil) (fun C1 place hv _ _ _ _ _ => have hv' := mem_rng hv; (x_lc0 (s := TL.rI) (f := (fun (other : Int) => (if (decide (place = other)) then (1 : Int) else 0))) 1 (k_rng1 (n := size) T.b_range (a_cons (x_var 0 rfl) a_nil) (by first | omega | (show _ ≤ 16777216; omega) | (show _ < 16777216; omega) | (simp only [Bool.and_eq_true, Bool.not_eq_true', Bool.not_eq_false', Bool.or_eq_false_iff, Bool.and_eq_false_iff, decide_eq_true_eq, decide_eq_false_iff_not] at *; omega) | decide +kernel | (show (0 : Int) < (10 : Int) ^ ((9 : Int)).toNat ∧ (10 : Int) ^ ((9 : Int)).toNat < 1000000000000000000000; decide))) (noOwn_cons rfl rfl noOwn_nil) (fun C1 other hv _ _ _ _ _ => have hv' := mem_rng hv; (x_intB T.b_int (x_eq (x_var 2 rfl) (x_var 1 rfl)))) sc_even.nd (blkOk_by (by kernel_rfl)) (fun _ _ _ _ _ => pg_name sc_even.nd rfl (Or.inl rfl)))) sc_even.nd (blkOk_by (N := n_even) (sc := defScope s_even) (by decide +kernel)) (fun _ _ _ _ _ => pg_name sc_even.nd rfl (by first | exact Or.inl rfl | exact Or.inr rfl))) (hret _ _ ⟨congrArg (fun z => (Ent.tld (fTb TL.rI) z : Ent)) (show (List.map (fun (place : Int) => (List.map (fun (other : Int) => (if (decide (place = other)) then (1 : Int) else 0)) (rng size))) (rng size)) = m_even size from Eq.symm rfl), rfl, posted_any⟩)
theorem ok_even (T : Txs K mg) : Callee P w K mg base CX0 "even" ["size"] (sp_even).sp 1 := by
  obtain ⟨f, fd, Fn, hm, hb⟩ := T.d_even.ex
  exact ⟨f, fd, fn_even T Fn, hm, Fn.kp, hb⟩
end
end My

namespace My
open PySem PySem.Spec PyProof.Rows L2 TL
abbrev n_row_to : List Str := ["self", "one", "often", "other", "part", "here", "there", "row"]
theorem sc_row_to : FnScope n_row_to ["self", "one", "often", "other"] (defScope s_row_to) := ⟨rfl, rfl, rfl, by decide +kernel, rfl, by decide +kernel, by decide +kernel⟩
structure PRow (s : SS) (one often other : Int) : Prop where
  sh : Shape s
  o0 : 0 ≤ one
  o1 : one < s.n
  h0 : 0 ≤ other
  h1 : other < s.n
  so : Sm often
  sm : smAll s
abbrev K3 (p : SS → Int → Int → Int → Prop) := {x : SS × Int × Int × Int // p x.1 x.2.1 x.2.2.1 x.2.2.2}
def ms_row_to : MS (K3 PRow) := { st := fun x => x.1.1, args := fun x => [x.1.2.1, x.1.2.2.1, x.1.2.2.2], post := fun x => m_row_to x.1.1 x.1.2.1 x.1.2.2.1 x.1.2.2.2, res := fun _ => .non }
section
variable {P : Program} {w : World} {K : PySem.W.Frag} {mg : Str → Option Value} {base : Heap}
theorem fn_row_to (T : Txs K mg) {f : Addr} {fd : FuncData} (Fn : Fun K "row_to" "Stepper.row_to" s_row_to f fd) : FnOk P w K mg base CX0 1 f fd ["self", "one", "often", "other"] (ms_row_to.sp mg) := by
  refine fs_okS Fn sc_row_to (fun _ => rfl) fun cdv_ A_ outer_ s_ H_ E_ x_ v_ C_ D_ hlk hr hret hnx => ?_
  obtain ⟨⟨s, one, often, other⟩, hp⟩ := x_
  have hp : PRow s one often other := hp
  have tB := hp.sh.Lb
  refine gs_G (G' := [.dat (rSx mg (Fresh C_) v_) s, .dat TL.rI one, .dat TL.rI often, .dat TL.rI other, .any, .any, .any, .any]) rfl ?_
  refine gs_open 0 rfl fun a ea hap => ?_
  refine gs_stT (stT_two2 (a := a) (s := s) .T .L (fun t => rAdd t one often other) (fun a s => [.dat (rSt mg (Fresh C_) a) s, .dat TL.rI one, .dat TL.rI often, .dat TL.rI other, .any, .any, .any, .any]) 4 (by decide) (x_tupP (a_cons (x_stFld .T T.cls (x_var 0 rfl)) (a_cons (x_stFld .L T.cls (x_var 0 rfl)) a_nil)))
    (fun a' s' h e1 e2 hh e3 en em => by
      have tT : ∃ m, Rect (s'.tb h) s.n m := by
        rw [e3]; rcases hh with rfl | rfl
        · exact ⟨_, hp.sh.T⟩
        · exact ⟨_, hp.sh.L⟩
      obtain ⟨m, tT⟩ := tT
      have hsm : SmT (s'.tb h) := by rw [e3]; exact hp.sm h
      refine stT_mono (stT_set (f := h) (a := a') (s := s') (l := List.map (fun (z : Int × Int) => z.2 + often * z.1) (List.zip (getA (s'.tb h) one) (getA (s'.tb h) other))) 0 4 (fun _ => Iff.rfl)
        (x_lcP0 (t := TL.rI) (f := fun (z : Int × Int) => z.2 + often * z.1) 5 6 (Wk.d (k_zip T.b_zip (a_cons (x_ixL (rl_dat (x_stTab 0 rfl (x_var 4 rfl))) (x_var 1 rfl) (getA_at hp.o0 (by rw [tT.1]; exact hp.o1))) (a_cons (x_ixL (rl_dat (x_stTab 0 rfl (x_var 4 rfl))) (x_var 3 rfl) (getA_at hp.h0 (by rw [tT.1]; exact hp.h1))) a_nil)))) (noOwn_cons rfl rfl (noOwn_cons rfl rfl noOwn_nil))
          (fun C1 z hv _ _ _ _ _ => x_add (x_var 6 rfl) (x_mulX (x_var 2 rfl) (x_var 5 rfl) (sm_mul hp.so (hsm _ (tT.get hp.o0 hp.o1).1 _ (List.of_mem_zip (show (z.1, z.2) ∈ _ from hv)).1)))) (by decide) sc_row_to.nd (blkOk_by (N := n_row_to) (sc := defScope s_row_to) (by decide +kernel)) (fun _ _ _ _ _ => pg_tup rfl (pgs_cons (pg_name sc_row_to.nd rfl (Or.inl rfl)) (pgs_cons (pg_name sc_row_to.nd rfl (Or.inl rfl)) pgs_nil rfl) rfl) rfl rfl))
        (x_var 3 rfl) rfl rfl (.any (.dat firm_T (.dat firm_T (.dat firm_T (.dat firm_T (.any (.any (.any .nil)))))))) hp.h0 (by rw [tT.1]; exact hp.h1)) fun G' hG => ?_
      obtain ⟨q, rfl⟩ := hG
      exact ⟨a'.setR h _, rfl, rfl, .keep (.keep (.keep (.keep (.drop (.keep (.keep (.keep .nil)))))))⟩)
    sc_row_to.nd rfl (Or.inl rfl)) fun G' hG => ?_
  obtain ⟨a2, k1, k2, rfl⟩ := hG
  refine gs_stT (stT_rows (f := .Lb) (F := cSub one often other) (s := (s.put .T (rAdd (s.tb .T) one often other)).put .L (rAdd (s.tb .L) one often other)) 0 7 (by decide) (x_stFld .Lb T.cls (x_var 0 rfl)) rfl (by show 7 < 8; decide)
    (fun k q row s' en em hq h1 h2 => stT_mono (stT_rowSet (f := .Lb) (ii := k) (q := q) (row := row) (z := getA row one - often * getA row other) (n := one) (s := s') 0 7 (fun _ => Iff.rfl) hq h2
        (x_sub (x_ixL (rl_dat (x_stRow 0 rfl hq h2 (x_var 7 rfl))) (x_var 1 rfl) (getA_at hp.o0 (by rw [tB.2 row (List.mem_of_getElem? h1)]; exact hp.o1)))
          (x_mulX (x_var 2 rfl) (x_ixL (rl_dat (x_stRow 0 rfl hq h2 (x_var 7 rfl))) (x_var 3 rfl) (getA_at hp.h0 (by rw [tB.2 row (List.mem_of_getElem? h1)]; exact hp.h1))) (sm_mul hp.so (hp.sm .Lb row (List.mem_of_getElem? h1) _ (getA_mem hp.h0 (by rw [tB.2 row (List.mem_of_getElem? h1)]; exact hp.h1))))))
        (x_var 1 rfl) rfl rfl (.any (.dat firm_T (.dat firm_T (.dat firm_T (.any (.any (.any (.dat firm_T .nil)))))))) hp.o0 (by rw [tB.2 row (List.mem_of_getElem? h1)]; exact hp.o1)) fun G' hG => by
      rw [hG]
      exact .keep (.keep (.keep (.keep (.keep (.keep (.keep (.drop .nil))))))))
    sc_row_to.nd rfl (Or.inl rfl)) fun G' hG => ?_
  subst hG
  refine gs_close 0 rfl (v := v_) (by rw [ea, k2]) ?_
  exact gs_endN (hnx _ rfl rfl)
end
abbrev n_column_to : List Str := ["self", "one", "often", "other", "part", "row", "back", "here", "there"]
theorem sc_column_to : FnScope n_column_to ["self", "one", "often", "other"] (defScope s_column_to) := ⟨rfl, rfl, rfl, by decide +kernel, rfl, by decide +kernel, by decide +kernel⟩
structure PCol (s : SS) (one often other : Int) : Prop where
  sh : Shape s
  o0 : 0 ≤ one
  o1 : one < s.m
  h0 : 0 ≤ other
  h1 : other < s.m
  so : Sm often
  sm : smAll s
def ms_column_to : MS (K3 PCol) := { st := fun x => x.1.1, args := fun x => [x.1.2.1, x.1.2.2.1, x.1.2.2.2], post := fun x => m_column_to x.1.1 x.1.2.1 x.1.2.2.1 x.1.2.2.2, res := fun _ => .non }
section
variable {P : Program} {w : World} {K : PySem.W.Frag} {mg : Str → Option Value} {base : Heap}
theorem fn_column_to (T : Txs K mg) {f : Addr} {fd : FuncData} (Fn : Fun K "column_to" "Stepper.column_to" s_column_to f fd) : FnOk P w K mg base CX0 1 f fd ["self", "one", "often", "other"] (ms_column_to.sp mg) := by
  refine fs_okS Fn sc_column_to (fun _ => rfl) fun cdv_ A_ outer_ s_ H_ E_ x_ v_ C_ D_ hlk hr hret hnx => ?_
  obtain ⟨⟨s, one, often, other⟩, hp⟩ := x_
  have hp : PCol s one often other := hp
  have tB := hp.sh.Rb
  refine gs_G (G' := [.dat (rSx mg (Fresh C_) v_) s, .dat TL.rI one, .dat TL.rI often, .dat TL.rI other, .any, .any, .any, .any, .any]) rfl ?_
  refine gs_open 0 rfl fun a ea hap => ?_
  refine gs_stT (stT_two2 (a := a) (s := s) .T .R (fun t => t.map (cAdd one often other)) (fun a s => [.dat (rSt mg (Fresh C_) a) s, .dat TL.rI one, .dat TL.rI often, .dat TL.rI other, .any, .any, .any, .any, .any]) 4 (by decide) (x_tupP (a_cons (x_stFld .T T.cls (x_var 0 rfl)) (a_cons (x_stFld .R T.cls (x_var 0 rfl)) a_nil)))
    (fun a' s' h e1 e2 hh e3 en em => by
      have tT : ∀ row ∈ s'.tb h, (row.length : Int) = s.m := by
        rw [e3]; rcases hh with rfl | rfl
        · exact hp.sh.T.2
        · exact hp.sh.R.2
      have hsm : SmT (s'.tb h) := by rw [e3]; exact hp.sm h
      refine stT_mono (stT_rows (f := h) (a := a') (s := s') (F := cAdd one often other) 0 5 (by decide) (x_var 4 rfl) rfl (by show 5 < 9; decide)
        (fun k q row s2 en2 em2 hq h1 h2 => stT_mono (stT_rowSet (f := h) (ii := k) (q := q) (row := row) (z := getA row other + often * getA row one) (n := other) (s := s2) 0 5 (fun _ => Iff.rfl) hq h2
          (x_add (x_ixL (rl_dat (x_stRow 0 rfl hq h2 (x_var 5 rfl))) (x_var 3 rfl) (getA_at hp.h0 (by rw [tT row (List.mem_of_getElem? h1)]; exact hp.h1)))
            (x_mulX (x_var 2 rfl) (x_ixL (rl_dat (x_stRow 0 rfl hq h2 (x_var 5 rfl))) (x_var 1 rfl) (getA_at hp.o0 (by rw [tT row (List.mem_of_getElem? h1)]; exact hp.o1))) (sm_mul hp.so (hsm row (List.mem_of_getElem? h1) _ (getA_mem hp.o0 (by rw [tT row (List.mem_of_getElem? h1)]; exact hp.o1))))))
          (x_var 3 rfl) rfl rfl (.any (.dat firm_T (.dat firm_T (.dat firm_T (.dat firm_T (.dat firm_T (.any (.any (.any .nil))))))))) hp.h0 (by rw [tT row (List.mem_of_getElem? h1)]; exact hp.h1)) fun G' hG => by
        rw [hG]
        exact .keep (.keep (.keep (.keep (.keep (.drop (.keep (.keep (.keep .nil)))))))))
        sc_column_to.nd rfl (Or.inl rfl)) fun G' hG => ?_
      subst hG
      exact ⟨a', rfl, rfl, .keep (.keep (.keep (.keep (.drop (.keep (.keep (.keep (.keep .nil))))))))⟩)
    sc_column_to.nd rfl (Or.inl rfl)) fun G' hG => ?_
  obtain ⟨a2, k1, k2, rfl⟩ := hG
  refine gs_set (i := 6) sc_column_to.nd rfl (Or.inl rfl) (e := .dat rA (a2.at_ .Rb)) (x_stFld .Rb T.cls (x_var 0 rfl)) ?_
  refine gs_G (G' := [.dat (rSt mg (Fresh C_) a2) ((s.put .T ((s.tb .T).map (cAdd one often other))).put .R ((s.tb .R).map (cAdd one often other))), .dat TL.rI one, .dat TL.rI often, .dat TL.rI other, .any, .any, .dat rA (a2.at_ .Rb), .any, .any]) rfl ?_
  refine gs_stT (stT_set (f := .Rb) (a := a2) (s := (s.put .T ((s.tb .T).map (cAdd one often other))).put .R ((s.tb .R).map (cAdd one often other))) (l := List.map (fun (z : Int × Int) => z.1 - often * z.2) (List.zip (getA (s.tb .Rb) one) (getA (s.tb .Rb) other))) 0 6 (fun _ => Iff.rfl)
      (x_lcP0 (t := TL.rI) (f := fun (z : Int × Int) => z.1 - often * z.2) 7 8 (Wk.d (k_zip T.b_zip (a_cons (x_ixL (rl_dat (x_stTab (f := .Rb) (s := (s.put .T ((s.tb .T).map (cAdd one often other))).put .R ((s.tb .R).map (cAdd one often other))) 0 rfl (x_var 6 rfl))) (x_var 1 rfl) (getA_at hp.o0 (by show one < ((s.tb .Rb).length : Int); rw [tB.1]; exact hp.o1))) (a_cons (x_ixL (rl_dat (x_stTab (f := .Rb) (s := (s.put .T ((s.tb .T).map (cAdd one often other))).put .R ((s.tb .R).map (cAdd one often other))) 0 rfl (x_var 6 rfl))) (x_var 3 rfl) (getA_at hp.h0 (by show other < ((s.tb .Rb).length : Int); rw [tB.1]; exact hp.h1))) a_nil)))) (noOwn_cons rfl rfl (noOwn_cons rfl rfl noOwn_nil))
        (fun C1 z hv _ _ _ _ _ => x_sub (x_var 7 rfl) (x_mulX (x_var 2 rfl) (x_var 8 rfl) (sm_mul hp.so (hp.sm .Rb _ (tB.get hp.h0 hp.h1).1 _ (List.of_mem_zip (show (z.1, z.2) ∈ _ from hv)).2)))) (by decide) sc_column_to.nd (blkOk_by (N := n_column_to) (sc := defScope s_column_to) (by decide +kernel)) (fun _ _ _ _ _ => pg_tup rfl (pgs_cons (pg_name sc_column_to.nd rfl (Or.inl rfl)) (pgs_cons (pg_name sc_column_to.nd rfl (Or.inl rfl)) pgs_nil rfl) rfl) rfl rfl))
      (x_var 1 rfl) rfl rfl (.any (.dat firm_T (.dat firm_T (.dat firm_T (.any (.any (.dat firm_T (.any (.any .nil))))))))) hp.o0 (by show one < ((s.tb .Rb).length : Int); rw [tB.1]; exact hp.o1)) fun G' hG => ?_
  obtain ⟨q, rfl⟩ := hG
  refine gs_close 0 rfl (v := v_) (by rw [ea, ← k2]; rfl) ?_
  exact gs_endN (hnx _ rfl rfl)
end

abbrev n_rows_changed : List Str := ["self", "one", "other", "part", "row"]
theorem sc_rows_changed : FnScope n_rows_changed ["self", "one", "other"] (defScope s_rows_changed) := ⟨rfl, rfl, rfl, by decide +kernel, rfl, by decide +kernel, by decide +kernel⟩
structure PRch (s : SS) (one other : Int) : Prop where
  sh : Shape s
  o0 : 0 ≤ one
  o1 : one < s.n
  h0 : 0 ≤ other
  h1 : other < s.n
abbrev K2 (p : SS → Int → Int → Prop) := {x : SS × Int × Int // p x.1 x.2.1 x.2.2}
def ms_rows_changed : MS (K2 PRch) := { st := fun x => x.1.1, args := fun x => [x.1.2.1, x.1.2.2], post := fun x => m_rows_changed x.1.1 x.1.2.1 x.1.2.2, res := fun _ => .non }
section
variable {P : Program} {w : World} {K : PySem.W.Frag} {mg : Str → Option Value} {base : Heap}
theorem fn_rows_changed (T : Txs K mg) {f : Addr} {fd : FuncData} (Fn : Fun K "rows_changed" "Stepper.rows_changed" s_rows_changed f fd) : FnOk P w K mg base CX0 1 f fd ["self", "one", "other"] (ms_rows_changed.sp mg) := by
  refine fs_okS Fn sc_rows_changed (fun _ => rfl) fun cdv_ A_ outer_ s_ H_ E_ x_ v_ C_ D_ hlk hr hret hnx => ?_
  obtain ⟨⟨s, one, other⟩, hp⟩ := x_
  have hp : PRch s one other := hp
  have tB := hp.sh.Lb
  refine gs_G (G' := [.dat (rSx mg (Fresh C_) v_) s, .dat TL.rI one, .dat TL.rI other, .any, .any]) rfl ?_
  refine gs_open 0 rfl fun a ea hap => ?_
  refine gs_stT (stT_two2 (a := a) (s := s) .T .L (fun t => swA one other t) (fun a s => [.dat (rSt mg (Fresh C_) a) s, .dat TL.rI one, .dat TL.rI other, .any, .any]) 3 (by decide) (x_tupP (a_cons (x_stFld .T T.cls (x_var 0 rfl)) (a_cons (x_stFld .L T.cls (x_var 0 rfl)) a_nil)))
    (fun a' s' h e1 e2 hh e3 en em => by
      have tT : ∃ m, Rect (s'.tb h) s.n m := by
        rw [e3]; rcases hh with rfl | rfl
        · exact ⟨_, hp.sh.T⟩
        · exact ⟨_, hp.sh.L⟩
      obtain ⟨m, tT⟩ := tT
      refine stT_mono (stT_swapA (f := h) (a := a') (s := s') 0 3 (by decide) (fun _ => Iff.rfl) (fun q1 q2 h1 h2 => x_tupP (a_cons (x_ixL (rl_dat (x_stRefs 0 rfl (x_var 3 rfl))) (x_var 2 rfl) (atI_toNat hp.h0 h2)) (a_cons (x_ixL (rl_dat (x_stRefs 0 rfl (x_var 3 rfl))) (x_var 1 rfl) (atI_toNat hp.o0 h1)) a_nil)))
        (x_var 1 rfl) (x_var 2 rfl) rfl rfl (.any (.dat firm_T (.dat firm_T (.dat firm_T (.any .nil))))) tT hp.o0 hp.h0 hp.o1 hp.h1) fun G' hG => ?_
      obtain ⟨a3, g1, g2, rfl⟩ := hG
      exact ⟨a3, g1, g2, .keep (.keep (.keep (.drop (.keep .nil))))⟩)
    sc_rows_changed.nd rfl (Or.inl rfl)) fun G' hG => ?_
  obtain ⟨a2, k1, k2, rfl⟩ := hG
  refine gs_stT (stT_rows (f := .Lb) (F := swA one other) (s := (s.put .T (swA one other (s.tb .T))).put .L (swA one other (s.tb .L))) 0 4 (by decide) (x_stFld .Lb T.cls (x_var 0 rfl)) rfl (by show 4 < 5; decide)
    (fun k q row s' en em hq h1 h2 => by
      have hl := tB.2 row (List.mem_of_getElem? h1)
      refine stT_mono (stT_rowSwap (f := .Lb) (ii := k) (q := q) (row := row) (n := one) (m := other) (z1 := getA row one) (z2 := getA row other) (s := s') 0 4 (by decide) (fun _ => Iff.rfl) hq h2
        (x_tupP (a_cons (x_ixL (rl_dat (x_stRow 0 rfl hq h2 (x_var 4 rfl))) (x_var 2 rfl) (getA_at hp.h0 (by rw [hl]; exact hp.h1))) (a_cons (x_ixL (rl_dat (x_stRow 0 rfl hq h2 (x_var 4 rfl))) (x_var 1 rfl) (getA_at hp.o0 (by rw [hl]; exact hp.o1))) a_nil)))
        (x_var 1 rfl) (x_var 2 rfl) rfl rfl (.any (.dat firm_T (.dat firm_T (.any (.dat firm_T .nil))))) hp.o0 hp.h0 (by rw [hl]; exact hp.o1) (by rw [hl]; exact hp.h1)) fun G' hG => ?_
      rw [hG]
      exact .keep (.keep (.keep (.keep (.drop .nil)))))
    sc_rows_changed.nd rfl (Or.inl rfl)) fun G' hG => ?_
  subst hG
  refine gs_close 0 rfl (v := v_) (by rw [ea, k2]) ?_
  exact gs_endN (hnx _ rfl rfl)
end

abbrev n_columns_changed : List Str := ["self", "one", "other", "part", "row", "back"]
theorem sc_columns_changed : FnScope n_columns_changed ["self", "one", "other"] (defScope s_columns_changed) := ⟨rfl, rfl, rfl, by decide +kernel, rfl, by decide +kernel, by decide +kernel⟩
structure PCch (s : SS) (one other : Int) : Prop where
  sh : Shape s
  o0 : 0 ≤ one
  o1 : one < s.m
  h0 : 0 ≤ other
  h1 : other < s.m
def ms_columns_changed : MS (K2 PCch) := { st := fun x => x.1.1, args := fun x => [x.1.2.1, x.1.2.2], post := fun x => m_columns_changed x.1.1 x.1.2.1 x.1.2.2, res := fun _ => .non }
section
variable {P : Program} {w : World} {K : PySem.W.Frag} {mg : Str → Option Value} {base : Heap}
theorem fn_columns_changed (T : Txs K mg) {f : Addr} {fd : FuncData} (Fn : Fun K "columns_changed" "Stepper.columns_changed" s_columns_changed f fd) : FnOk P w K mg base CX0 1 f fd ["self", "one", "other"] (ms_columns_changed.sp mg) := by
  refine fs_okS Fn sc_columns_changed (fun _ => rfl) fun cdv_ A_ outer_ s_ H_ E_ x_ v_ C_ D_ hlk hr hret hnx => ?_
  obtain ⟨⟨s, one, other⟩, hp⟩ := x_
  have hp : PCch s one other := hp
  have tB := hp.sh.Rb
  refine gs_G (G' := [.dat (rSx mg (Fresh C_) v_) s, .dat TL.rI one, .dat TL.rI other, .any, .any, .any]) rfl ?_
  refine gs_open 0 rfl fun a ea hap => ?_
  refine gs_stT (stT_two2 (a := a) (s := s) .T .R (fun t => t.map (swA one other)) (fun a s => [.dat (rSt mg (Fresh C_) a) s, .dat TL.rI one, .dat TL.rI other, .any, .any, .any]) 3 (by decide) (x_tupP (a_cons (x_stFld .T T.cls (x_var 0 rfl)) (a_cons (x_stFld .R T.cls (x_var 0 rfl)) a_nil)))
    (fun a' s' h e1 e2 hh e3 en em => by
      have tT : ∀ row ∈ s'.tb h, (row.length : Int) = s.m := by
        rw [e3]; rcases hh with rfl | rfl
        · exact hp.sh.T.2
        · exact hp.sh.R.2
      refine stT_mono (stT_rows (f := h) (a := a') (s := s') (F := swA one other) 0 4 (by decide) (x_var 3 rfl) rfl (by show 4 < 6; decide)
        (fun k q row s2 en2 em2 hq h1 h2 => by
          have hl := tT row (List.mem_of_getElem? h1)
          refine stT_mono (stT_rowSwap (f := h) (ii := k) (q := q) (row := row) (n := one) (m := other) (z1 := getA row one) (z2 := getA row other) (s := s2) 0 4 (by decide) (fun _ => Iff.rfl) hq h2
            (x_tupP (a_cons (x_ixL (rl_dat (x_stRow 0 rfl hq h2 (x_var 4 rfl))) (x_var 2 rfl) (getA_at hp.h0 (by rw [hl]; exact hp.h1))) (a_cons (x_ixL (rl_dat (x_stRow 0 rfl hq h2 (x_var 4 rfl))) (x_var 1 rfl) (getA_at hp.o0 (by rw [hl]; exact hp.o1))) a_nil)))
            (x_var 1 rfl) (x_var 2 rfl) rfl rfl (.any (.dat firm_T (.dat firm_T (.dat firm_T (.dat firm_T (.any .nil)))))) hp.o0 hp.h0 (by rw [hl]; exact hp.o1) (by rw [hl]; exact hp.h1)) fun G' hG => ?_
          rw [hG]
          exact .keep (.keep (.keep (.keep (.drop (.keep .nil))))))
        sc_columns_changed.nd rfl (Or.inl rfl)) fun G' hG => ?_
      subst hG
      exact ⟨a', rfl, rfl, .keep (.keep (.keep (.drop (.keep (.keep .nil)))))⟩)
    sc_columns_changed.nd rfl (Or.inl rfl)) fun G' hG => ?_
  obtain ⟨a2, k1, k2, rfl⟩ := hG
  refine gs_set (i := 5) sc_columns_changed.nd rfl (Or.inl rfl) (e := .dat rA (a2.at_ .Rb)) (x_stFld .Rb T.cls (x_var 0 rfl)) ?_
  refine gs_stT (stT_swapA (f := .Rb) (a := a2) (s := (s.put .T ((s.tb .T).map (swA one other))).put .R ((s.tb .R).map (swA one other))) 0 5 (by decide) (fun _ => Iff.rfl) (fun q1 q2 h1 h2 => x_tupP (a_cons (x_ixL (rl_dat (x_stRefs 0 rfl (x_var 5 rfl))) (x_var 2 rfl) (atI_toNat hp.h0 h2)) (a_cons (x_ixL (rl_dat (x_stRefs 0 rfl (x_var 5 rfl))) (x_var 1 rfl) (atI_toNat hp.o0 h1)) a_nil)))
        (x_var 1 rfl) (x_var 2 rfl) rfl rfl (.any (.dat firm_T (.dat firm_T (.any (.any (.dat firm_T .nil)))))) (show Rect (s.tb .Rb) s.m s.m from tB) hp.o0 hp.h0 hp.o1 hp.h1) fun G' hG => ?_
  obtain ⟨a3, g1, g2, rfl⟩ := hG
  refine gs_close 0 rfl (v := v_) (by rw [ea, g2, k2]) ?_
  exact gs_endN (hnx _ rfl rfl)
end

abbrev n_row_contrary : List Str := ["self", "one", "part", "number", "row"]
theorem sc_row_contrary : FnScope n_row_contrary ["self", "one"] (defScope s_row_contrary) := ⟨rfl, rfl, rfl, by decide +kernel, rfl, by decide +kernel, by decide +kernel⟩
structure PCon (s : SS) (one : Int) : Prop where
  sh : Shape s
  o0 : 0 ≤ one
  o1 : one < s.n
abbrev K1 (p : SS → Int → Prop) := {x : SS × Int // p x.1 x.2}
def ms_row_contrary : MS (K1 PCon) := { st := fun x => x.1.1, args := fun x => [x.1.2], post := fun x => m_row_contrary x.1.1 x.1.2, res := fun _ => .non }
section
variable {P : Program} {w : World} {K : PySem.W.Frag} {mg : Str → Option Value} {base : Heap}
theorem fn_row_contrary (T : Txs K mg) {f : Addr} {fd : FuncData} (Fn : Fun K "row_contrary" "Stepper.row_contrary" s_row_contrary f fd) : FnOk P w K mg base CX0 1 f fd ["self", "one"] (ms_row_contrary.sp mg) := by
  refine fs_okS Fn sc_row_contrary (fun _ => rfl) fun cdv_ A_ outer_ s_ H_ E_ x_ v_ C_ D_ hlk hr hret hnx => ?_
  obtain ⟨⟨s, one⟩, hp⟩ := x_
  have hp : PCon s one := hp
  have tB := hp.sh.Lb
  refine gs_G (G' := [.dat (rSx mg (Fresh C_) v_) s, .dat TL.rI one, .any, .any, .any]) rfl ?_
  refine gs_open 0 rfl fun a ea hap => ?_
  refine gs_stT (stT_two2 (a := a) (s := s) .T .L (fun t => rNeg t one) (fun a s => [.dat (rSt mg (Fresh C_) a) s, .dat TL.rI one, .any, .any, .any]) 2 (by decide) (x_tupP (a_cons (x_stFld .T T.cls (x_var 0 rfl)) (a_cons (x_stFld .L T.cls (x_var 0 rfl)) a_nil)))
    (fun a' s' h e1 e2 hh e3 en em => by
      have tT : ∃ m, Rect (s'.tb h) s.n m := by
        rw [e3]; rcases hh with rfl | rfl
        · exact ⟨_, hp.sh.T⟩
        · exact ⟨_, hp.sh.L⟩
      obtain ⟨m, tT⟩ := tT
      refine stT_mono (stT_set (f := h) (a := a') (s := s') (l := List.map (fun (z : Int) => -z) (getA (s'.tb h) one)) 0 2 (fun _ => Iff.rfl)
        (x_lc0 (s := TL.rI) (f := fun (z : Int) => -z) 3 (k_list (x_ixL (rl_dat (x_stTab 0 rfl (x_var 2 rfl))) (x_var 1 rfl) (getA_at hp.o0 (by rw [tT.1]; exact hp.o1)))) (noOwn_cons rfl rfl noOwn_nil)
          (fun C1 z hv _ _ _ _ _ => x_neg (x_var 3 rfl)) sc_row_contrary.nd (blkOk_by (N := n_row_contrary) (sc := defScope s_row_contrary) (by decide +kernel)) (fun _ _ _ _ _ => pg_name sc_row_contrary.nd rfl (Or.inl rfl)))
        (x_var 1 rfl) rfl rfl (.any (.dat firm_T (.dat firm_T (.any (.any .nil))))) hp.o0 (by rw [tT.1]; exact hp.o1)) fun G' hG => ?_
      obtain ⟨q, rfl⟩ := hG
      exact ⟨a'.setR h _, rfl, rfl, .keep (.keep (.drop (.keep (.keep .nil))))⟩)
    sc_row_contrary.nd rfl (Or.inl rfl)) fun G' hG => ?_
  obtain ⟨a2, k1, k2, rfl⟩ := hG
  refine gs_stT (stT_rows (f := .Lb) (F := cNeg one) (s := (s.put .T (rNeg (s.tb .T) one)).put .L (rNeg (s.tb .L) one)) 0 4 (by decide) (x_stFld .Lb T.cls (x_var 0 rfl)) rfl (by show 4 < 5; decide)
    (fun k q row s' en em hq h1 h2 => by
      have hl := tB.2 row (List.mem_of_getElem? h1)
      refine stT_mono (stT_rowSet (f := .Lb) (ii := k) (q := q) (row := row) (z := -(getA row one)) (n := one) (s := s') 0 4 (fun _ => Iff.rfl) hq h2
        (x_neg (x_ixL (rl_dat (x_stRow 0 rfl hq h2 (x_var 4 rfl))) (x_var 1 rfl) (getA_at hp.o0 (by rw [hl]; exact hp.o1))))
        (x_var 1 rfl) rfl rfl (.any (.dat firm_T (.any (.any (.dat firm_T .nil))))) hp.o0 (by rw [hl]; exact hp.o1)) fun G' hG => ?_
      rw [hG]
      exact .keep (.keep (.keep (.keep (.drop .nil)))))
    sc_row_contrary.nd rfl (Or.inl rfl)) fun G' hG => ?_
  subst hG
  refine gs_close 0 rfl (v := v_) (by rw [ea, k2]) ?_
  exact gs_endN (hnx _ rfl rfl)
end
def v_least_from_found1  : (Option (Int × Int × Int)) := (none : (Option (Int × Int × Int)))
def v_least_from_here2 (self : SS) (row : Int) (column : Int) : Int := ((Int.natAbs (getA (getA (self.tb .T) row) column) : Nat) : Int)
def v_least_from_found3 (self : SS) (row : Int) (column : Int) : (Option (Int × Int × Int)) := (some ((v_least_from_here2 self row column), row, column))
def v_least_from_f4 (self : SS) (found_s : (Option (Int × Int × Int))) (row : Int) : ((Option (Int × Int × Int))) → Int → ((Option (Int × Int × Int))) := (fun (zz : ((Option (Int × Int × Int)))) (column : Int) => let found_s := zz; (if ((decide ((0 : Int) < (v_least_from_here2 self row column))) && ((found_s.isNone) || (decide ((v_least_from_here2 self row column) < (found_s.getD default).1)))) = true then ((v_least_from_found3 self row column)) else (found_s)))
def v_least_from_l5 (self : SS) (step : Int) (found_s : (Option (Int × Int × Int))) (row : Int) : ((Option (Int × Int × Int))) := (List.foldl (v_least_from_f4 self found_s row) (found_s) (rng2 step self.m))
def v_least_from_f6 (self : SS) (step : Int) : ((Option (Int × Int × Int))) → Int → ((Option (Int × Int × Int))) := (fun (zz : ((Option (Int × Int × Int)))) (row : Int) => let found_s := zz; ((v_least_from_l5 self step found_s row)))
def v_least_from_l7 (self : SS) (step : Int) : ((Option (Int × Int × Int))) := (List.foldl (v_least_from_f6 self step) (v_least_from_found1) (rng2 step self.n))
def m_least_from (self : SS) (step : Int) : (Option (Int × Int × Int)) :=
  (v_least_from_l7 self step)
def sp_least_from (mg : Str → Option Value) : FS ({x : SS × Int // Shape x.1 ∧ x.1.n ≤ 1000 ∧ x.1.m ≤ 1000 ∧ 0 ≤ x.2 ∧ x.2 ≤ 1000}) := { args := fun x => [.dat (rSr mg) x.1.1, .dat TL.rI x.1.2], res := fun x => .dat (rO (TL.rP3 TL.rI TL.rI TL.rI)) (m_least_from x.1.1 x.1.2) }
abbrev n_least_from : List Str := ["self", "step", "found", "row", "column", "here"]
theorem sc_least_from : FnScope n_least_from ["self", "step"] (defScope s_least_from) := ⟨rfl, rfl, rfl, by decide +kernel, rfl, by decide +kernel, by decide +kernel⟩
section
variable {P : Program} {w : World} {K : PySem.W.Frag} {mg : Str → Option Value} {base : Heap}
theorem fn_least_from (T : Txs K mg) {f : Addr} {fd : FuncData} (Fn : Fun K "least_from" "Stepper.least_from" s_least_from f fd) : FnOk P w K mg base CX0 1 f fd ["self", "step"] (sp_least_from mg).sp := by
  refine fs_ok Fn sc_least_from (fun _ => rfl) (fun _ => rfl) fun cdv_ A_ outer_ s_ H_ E_ x_ C_ D_ hr hret hnx => ?_
  have hu65 := hu65_of hr; have hu64 := hu64_of hr; have hu1 := hu1_of hr
  obtain ⟨⟨self, step⟩, hpre⟩ := x_
  refine gs_G (G' := [.dat (rSr mg) self, .dat TL.rI step, .any, .any, .any, .any]) rfl ?_
  have hsh : Shape self := hpre.1
  have hn0 : 0 ≤ self.n := by have h9 := hsh.T.1; omega
  have hm0 : 0 ≤ self.m := by have h9 := hsh.R.1; omega
  have hn4 : self.n ≤ 1000 := hpre.2.1
  have hm4 : self.m ≤ 1000 := hpre.2.2.1
  have hs0 : 0 ≤ step := hpre.2.2.2.1
  have hst : step ≤ 1000 := hpre.2.2.2.2
  refine gs_set (i := 2) sc_least_from.nd rfl (Or.inl rfl) (e := .dat (rO (TL.rP3 TL.rI TL.rI TL.rI)) v_least_from_found1) (x_is x_noneO rfl) ?_
  refine gs_for1 (S := ((Option (Int × Int × Int)))) 3 (k_rng2 (n := step) (m := self.n) T.b_range (a_cons (x_var 1 rfl) (a_cons (x_srRows T.cls (x_var 0 rfl)) a_nil)) (by omega)) (fun (z : ((Option (Int × Int × Int)))) => [.dat (rSr mg) self, .dat TL.rI step, .dat (rO (TL.rP3 TL.rI TL.rI TL.rI)) z, .any, .any, .any]) (v_least_from_found1) (v_least_from_f6 self step) (.keep (.keep (.keep (.drop (.drop (.drop .nil)))))) (fun B1 ii row found_s hi hz => ?_) ?_ sc_least_from.nd rfl (Or.inl rfl)
  · have _ := hz
    refine gs_G (G' := [.dat (rSr mg) self, .dat TL.rI step, .dat (rO (TL.rP3 TL.rI TL.rI TL.rI)) found_s, .dat TL.rI row, .any, .any]) rfl ?_
    have hv := List.mem_of_getElem? hi
    have hv' := mem_rng2 hv
    refine gs_for1 (S := ((Option (Int × Int × Int)))) 4 (k_rng2 (n := step) (m := self.m) T.b_range (a_cons (x_var 1 rfl) (a_cons (x_srCols T.cls (x_var 0 rfl)) a_nil)) (by omega)) (fun (z : ((Option (Int × Int × Int)))) => [.dat (rSr mg) self, .dat TL.rI step, .dat (rO (TL.rP3 TL.rI TL.rI TL.rI)) z, .dat TL.rI row, .any, .any]) (found_s) (v_least_from_f4 self found_s row) (.keep (.keep (.keep (.keep (.drop (.drop .nil)))))) (fun B1 ii column found_s hi hz => ?_) ?_ sc_least_from.nd rfl (Or.inl rfl)
    · have _ := hz
      refine gs_G (G' := [.dat (rSr mg) self, .dat TL.rI step, .dat (rO (TL.rP3 TL.rI TL.rI TL.rI)) found_s, .dat TL.rI row, .dat TL.rI column, .any]) rfl ?_
      have hv := List.mem_of_getElem? hi
      have hv' := mem_rng2 hv
      refine gs_set (i := 5) sc_least_from.nd rfl (Or.inl rfl) (e := .dat TL.rI (v_least_from_here2 self row column)) (x_is (x_abs T.b_abs (x_ixL (rl_dat (x_ixL (rl_dat (x_srTab .T T.cls (x_var 0 rfl))) (x_var 3 rfl) (getA_at (l := (self.tb .T)) (i := row) (by omega) (by first | (rw [hsh.T.1]; omega) | (rw [(hsh.T.get (by omega) (by omega)).2]; omega))))) (x_var 4 rfl) (getA_at (l := (getA (self.tb .T) row)) (i := column) (by omega) (by first | (rw [hsh.T.1]; omega) | (rw [(hsh.T.get (by omega) (by omega)).2]; omega))))) rfl) ?_
      refine gs_if (t_w (w_and (t_gt (x_var 5 rfl) x_int) (fun hb => (w_and1 (t_w (w_or (t_isOb (x_var 2 rfl)) (fun hn1 => (w_or1 (t_lt (x_var 5 rfl) (x_t0 (x_getO (x_var 2 rfl) (not_none hn1)))))))))))) (fun h1 => ?_) (fun h1 => ?_)
      · have _ := h1
        refine gs_set (i := 2) sc_least_from.nd rfl (Or.inl rfl) (e := .dat (rO (TL.rP3 TL.rI TL.rI TL.rI)) (v_least_from_found3 self row column)) (x_is (x_someO (x_tupP3 (a_cons (x_var 5 rfl) (a_cons (x_var 3 rfl) (a_cons (x_var 4 rfl) a_nil))))) rfl) ?_
        refine gs_nil ?_
        exact gs_endB (Gs := fun (z : ((Option (Int × Int × Int)))) => [.dat (rSr mg) self, .dat TL.rI step, .dat (rO (TL.rP3 TL.rI TL.rI TL.rI)) z, .dat TL.rI row, .any, .any]) (((ifp h1))) (.keep (.keep (.keep (.keep (.drop (.drop .nil))))))
      refine gs_nil ?_
      exact gs_endB (Gs := fun (z : ((Option (Int × Int × Int)))) => [.dat (rSr mg) self, .dat TL.rI step, .dat (rO (TL.rP3 TL.rI TL.rI TL.rI)) z, .dat TL.rI row, .any, .any]) (((ifn h1))) (.keep (.keep (.keep (.keep (.drop (.drop .nil))))))
    refine gs_G (G' := [.dat (rSr mg) self, .dat TL.rI step, .dat (rO (TL.rP3 TL.rI TL.rI TL.rI)) (v_least_from_l5 self step found_s row), .dat TL.rI row, .any, .any]) rfl ?_
    exact gs_endB (Gs := fun (z : ((Option (Int × Int × Int)))) => [.dat (rSr mg) self, .dat TL.rI step, .dat (rO (TL.rP3 TL.rI TL.rI TL.rI)) z, .any, .any, .any]) (rfl) (.keep (.keep (.keep (.drop (.drop (.drop .nil))))))
  refine gs_G (G' := [.dat (rSr mg) self, .dat TL.rI step, .dat (rO (TL.rP3 TL.rI TL.rI TL.rI)) (v_least_from_l7 self step), .any, .any, .any]) rfl ?_
  exact gs_ret (x_var 2 rfl) (hret _ _ ⟨congrArg (fun z => (Ent.dat (rO (TL.rP3 TL.rI TL.rI TL.rI)) z : Ent)) (show (v_least_from_l7 self step) = m_least_from self step from Eq.symm rfl), rfl, posted_any⟩)
theorem ok_least_from (T : Txs K mg) : MCal P w K mg base "least_from" ["self", "step"] (sp_least_from mg).sp 1 := by
  obtain ⟨CA, f, fd, h1, h2, h3, Fn, hb⟩ := T.c_least_from.ex
  exact ⟨CA, f, fd, h1, h2, h3, fn_least_from T Fn, hb⟩
end
def m_is_clear (self : SS) (step : Int) : Bool :=
  (if (((List.map (fun (column : Int) => ((!decide ((getA (getA (self.tb .T) step) column) = (0 : Int))))) (rng2 (step + (1 : Int)) self.m))).any id) = true then false else (((List.map (fun (row : Int) => (decide ((getA (getA (self.tb .T) row) step) = (0 : Int)))) (rng2 (step + (1 : Int)) self.n))).all id))
def sp_is_clear (mg : Str → Option Value) : FS ({x : SS × Int // Shape x.1 ∧ x.1.n ≤ 1000 ∧ x.1.m ≤ 1000 ∧ 0 ≤ x.2 ∧ x.2 < x.1.n ∧ x.2 < x.1.m}) := { args := fun x => [.dat (rSr mg) x.1.1, .dat TL.rI x.1.2], res := fun x => .dat TL.rB (m_is_clear x.1.1 x.1.2) }
abbrev n_is_clear : List Str := ["self", "step", "column", "row"]
theorem sc_is_clear : FnScope n_is_clear ["self", "step"] (defScope s_is_clear) := ⟨rfl, rfl, rfl, by decide +kernel, rfl, by decide +kernel, by decide +kernel⟩
section
variable {P : Program} {w : World} {K : PySem.W.Frag} {mg : Str → Option Value} {base : Heap}
theorem fn_is_clear (T : Txs K mg) {f : Addr} {fd : FuncData} (Fn : Fun K "is_clear" "Stepper.is_clear" s_is_clear f fd) : FnOk P w K mg base CX0 1 f fd ["self", "step"] (sp_is_clear mg).sp := by
  refine fs_ok Fn sc_is_clear (fun _ => rfl) (fun _ => rfl) fun cdv_ A_ outer_ s_ H_ E_ x_ C_ D_ hr hret hnx => ?_
  have hu65 := hu65_of hr; have hu64 := hu64_of hr; have hu1 := hu1_of hr
  obtain ⟨⟨self, step⟩, hpre⟩ := x_
  refine gs_G (G' := [.dat (rSr mg) self, .dat TL.rI step, .any, .any]) rfl ?_
  have hsh : Shape self := hpre.1
  have hn0 : 0 ≤ self.n := by have h9 := hsh.T.1; omega
  have hm0 : 0 ≤ self.m := by have h9 := hsh.R.1; omega
  have hn4 : self.n ≤ 1000 := hpre.2.1
  have hm4 : self.m ≤ 1000 := hpre.2.2.1
  have hs0 : 0 ≤ step := hpre.2.2.2.1
  have hst : step ≤ 1000 := by have h1 := hpre.2.2.2.2.1; have h2 : self.n ≤ 1000 := hpre.2.1; exact Int.le_trans (Int.le_of_lt h1) h2
  have hs1 : step < self.n := hpre.2.2.2.2.1
  have hs2 : step < self.m := hpre.2.2.2.2.2
  refine gs_if (t_v (x_any T.b_any (rl_dat (x_lst (x_lc0 (s := TL.rB) (f := (fun (column : Int) => ((!decide ((getA (getA (self.tb .T) step) column) = (0 : Int)))))) 2 (k_rng2 (n := (step + (1 : Int))) (m := self.m) T.b_range (a_cons (x_add (x_var 1 rfl) x_int) (a_cons (x_srCols T.cls (x_var 0 rfl)) a_nil)) (by omega)) (noOwn_cons rfl rfl noOwn_nil) (fun C1 column hv _ _ _ _ _ => have hv' := mem_rng2 hv; (x_ne (x_ixL (rl_dat (x_ixL (rl_dat (x_srTab .T T.cls (x_var 0 rfl))) (x_var 1 rfl) (getA_at (l := (self.tb .T)) (i := step) (by omega) (by first | (rw [hsh.T.1]; omega) | (rw [(hsh.T.get (by omega) (by omega)).2]; omega))))) (x_var 2 rfl) (getA_at (l := (getA (self.tb .T) step)) (i := column) (by omega) (by first | (rw [hsh.T.1]; omega) | (rw [(hsh.T.get (by omega) (by omega)).2]; omega)))) x_int)) sc_is_clear.nd (blkOk_by (N := n_is_clear) (sc := defScope s_is_clear) (by decide +kernel)) (fun _ _ _ _ _ => pg_name sc_is_clear.nd rfl (Or.inl rfl))))))) (fun h1 => ?_) (fun h1 => ?_)
  · have _ := h1
    exact gs_ret x_bl (hret _ _ ⟨congrArg (fun z => (Ent.dat TL.rB z : Ent)) (show false = m_is_clear self step from Eq.symm ((ifp h1))), rfl, posted_any⟩)
  refine gs_nil ?_
  exact gs_ret (x_all T.b_all (rl_dat (x_lst (x_lc0 (s := TL.rB) (f := (fun (row : Int) => (decide ((getA (getA (self.tb .T) row) step) = (0 : Int))))) 3 (k_rng2 (n := (step + (1 : Int))) (m := self.n) T.b_range (a_cons (x_add (x_var 1 rfl) x_int) (a_cons (x_srRows T.cls (x_var 0 rfl)) a_nil)) (by omega)) (noOwn_cons rfl rfl noOwn_nil) (fun C1 row hv _ _ _ _ _ => have hv' := mem_rng2 hv; (x_eq (x_ixL (rl_dat (x_ixL (rl_dat (x_srTab .T T.cls (x_var 0 rfl))) (x_var 3 rfl) (getA_at (l := (self.tb .T)) (i := row) (by omega) (by first | (rw [hsh.T.1]; omega) | (rw [(hsh.T.get (by omega) (by omega)).2]; omega))))) (x_var 1 rfl) (getA_at (l := (getA (self.tb .T) row)) (i := step) (by omega) (by first | (rw [hsh.T.1]; omega) | (rw [(hsh.T.get (by omega) (by omega)).2]; omega)))) x_int)) sc_is_clear.nd (blkOk_by (N := n_is_clear) (sc := defScope s_is_clear) (by decide +kernel)) (fun _ _ _ _ _ => pg_name sc_is_clear.nd rfl (Or.inl rfl)))))) (hret _ _ ⟨congrArg (fun z => (Ent.dat TL.rB z : Ent)) (show (((List.map (fun (row : Int) => (decide ((getA (getA (self.tb .T) row) step) = (0 : Int)))) (rng2 (step + (1 : Int)) self.n))).all id) = m_is_clear self step from Eq.symm ((ifn h1))), rfl, posted_any⟩)
theorem ok_is_clear (T : Txs K mg) : MCal P w K mg base "is_clear" ["self", "step"] (sp_is_clear mg).sp 1 := by
  obtain ⟨CA, f, fd, h1, h2, h3, Fn, hb⟩ := T.c_is_clear.ex
  exact ⟨CA, f, fd, h1, h2, h3, fn_is_clear T Fn, hb⟩
end
def v_undivided_f1 (self : SS) (step : Int) (row : Int) : Unit → Int → ((Option Int) ⊕ Unit) ⊕ Unit := (fun (zz : Unit) (column : Int) => (if ((!decide ((Int.fmod (getA (getA (self.tb .T) row) column) (getA (getA (self.tb .T) step) step)) = (0 : Int)))) = true then (Sum.inl (Sum.inl (some row))) else (Sum.inr ())))
def v_undivided_f2 (self : SS) (step : Int) : Unit → Int → (Option Int) ⊕ Unit := (fun (zz : Unit) (row : Int) => (outR (loopR (v_undivided_f1 self step row) () (rng2 (step + (1 : Int)) self.m)) (fun zr2 => (Sum.inr ()))))
def m_undivided (self : SS) (step : Int) : (Option Int) :=
  (outR (loopR (v_undivided_f2 self step) () (rng2 (step + (1 : Int)) self.n)) (fun zr2 => (none : (Option Int))))
def sp_undivided (mg : Str → Option Value) : FS ({x : SS × Int // Shape x.1 ∧ x.1.n ≤ 1000 ∧ x.1.m ≤ 1000 ∧ 0 ≤ x.2 ∧ x.2 < x.1.n ∧ x.2 < x.1.m ∧ getA (getA (x.1.tb .T) x.2) x.2 ≠ 0}) := { args := fun x => [.dat (rSr mg) x.1.1, .dat TL.rI x.1.2], res := fun x => .dat (rO TL.rI) (m_undivided x.1.1 x.1.2) }
abbrev n_undivided : List Str := ["self", "step", "row", "column"]
theorem sc_undivided : FnScope n_undivided ["self", "step"] (defScope s_undivided) := ⟨rfl, rfl, rfl, by decide +kernel, rfl, by decide +kernel, by decide +kernel⟩
section
variable {P : Program} {w : World} {K : PySem.W.Frag} {mg : Str → Option Value} {base : Heap}
theorem fn_undivided (T : Txs K mg) {f : Addr} {fd : FuncData} (Fn : Fun K "undivided" "Stepper.undivided" s_undivided f fd) : FnOk P w K mg base CX0 1 f fd ["self", "step"] (sp_undivided mg).sp := by
  refine fs_ok Fn sc_undivided (fun _ => rfl) (fun _ => rfl) fun cdv_ A_ outer_ s_ H_ E_ x_ C_ D_ hr hret hnx => ?_
  have hu65 := hu65_of hr; have hu64 := hu64_of hr; have hu1 := hu1_of hr
  obtain ⟨⟨self, step⟩, hpre⟩ := x_
  refine gs_G (G' := [.dat (rSr mg) self, .dat TL.rI step, .any, .any]) rfl ?_
  have hsh : Shape self := hpre.1
  have hn0 : 0 ≤ self.n := by have h9 := hsh.T.1; omega
  have hm0 : 0 ≤ self.m := by have h9 := hsh.R.1; omega
  have hn4 : self.n ≤ 1000 := hpre.2.1
  have hm4 : self.m ≤ 1000 := hpre.2.2.1
  have hs0 : 0 ≤ step := hpre.2.2.2.1
  have hst : step ≤ 1000 := by have h1 := hpre.2.2.2.2.1; have h2 : self.n ≤ 1000 := hpre.2.1; exact Int.le_trans (Int.le_of_lt h1) h2
  have hs1 : step < self.n := hpre.2.2.2.2.1
  have hs2 : step < self.m := hpre.2.2.2.2.2.1
  refine gs_forR1 (S := Unit) 2 (k_rng2 (n := (step + (1 : Int))) (m := self.n) T.b_range (a_cons (x_add (x_var 1 rfl) x_int) (a_cons (x_srRows T.cls (x_var 0 rfl)) a_nil)) (by omega)) (fun (z : Unit) => [.dat (rSr mg) self, .dat TL.rI step, .any, .any]) () (v_undivided_f2 self step) (.keep (.keep (.drop (.drop .nil)))) (fun B1 ii row zz hi1 hz1 => ?_) (fun zr2 hzE2 => ?_) sc_undivided.nd rfl (Or.inl rfl)
  · have _ := hz1
    refine gs_G (G' := [.dat (rSr mg) self, .dat TL.rI step, .dat TL.rI row, .any]) rfl ?_
    have hv := List.mem_of_getElem? hi1
    have hv' := mem_rng2 hv
    refine gs_forR1 (S := Unit) 3 (k_rng2 (n := (step + (1 : Int))) (m := self.m) T.b_range (a_cons (x_add (x_var 1 rfl) x_int) (a_cons (x_srCols T.cls (x_var 0 rfl)) a_nil)) (by omega)) (fun (z : Unit) => [.dat (rSr mg) self, .dat TL.rI step, .dat TL.rI row, .any]) () (v_undivided_f1 self step row) (.keep (.keep (.keep (.drop .nil)))) (fun B1 ii column zz hi2 hz2 => ?_) (fun zr2 hzE2 => ?_) sc_undivided.nd rfl (Or.inl rfl)
    · have _ := hz2
      refine gs_G (G' := [.dat (rSr mg) self, .dat TL.rI step, .dat TL.rI row, .dat TL.rI column]) rfl ?_
      have hv := List.mem_of_getElem? hi2
      have hv' := mem_rng2 hv
      refine gs_if (t_ne (x_fmodX (x_ixL (rl_dat (x_ixL (rl_dat (x_srTab .T T.cls (x_var 0 rfl))) (x_var 2 rfl) (getA_at (l := (self.tb .T)) (i := row) (by omega) (by first | (rw [hsh.T.1]; omega) | (rw [(hsh.T.get (by omega) (by omega)).2]; omega))))) (x_var 3 rfl) (getA_at (l := (getA (self.tb .T) row)) (i := column) (by omega) (by first | (rw [hsh.T.1]; omega) | (rw [(hsh.T.get (by omega) (by omega)).2]; omega)))) (x_ixL (rl_dat (x_ixL (rl_dat (x_srTab .T T.cls (x_var 0 rfl))) (x_var 1 rfl) (getA_at (l := (self.tb .T)) (i := step) (by omega) (by first | (rw [hsh.T.1]; omega) | (rw [(hsh.T.get (by omega) (by omega)).2]; omega))))) (x_var 1 rfl) (getA_at (l := (getA (self.tb .T) step)) (i := step) (by omega) (by first | (rw [hsh.T.1]; omega) | (rw [(hsh.T.get (by omega) (by omega)).2]; omega)))) (by exact hpre.2.2.2.2.2.2)) x_int) (fun h1 => ?_) (fun h1 => ?_)
      · have _ := h1
        exact gs_ret (x_someI (x_var 2 rfl)) (hret _ _ ⟨congrArg (fun z => (Ent.dat (rO TL.rI) z : Ent)) (show (some row) = m_undivided self step from Eq.symm ((outR_ret hz1 hi1 ((outR_ret hz2 hi2 ((ifp h1))))))), rfl, posted_any⟩)
      refine gs_nil ?_
      exact gs_endR (Gs := fun (z : Unit) => [.dat (rSr mg) self, .dat TL.rI step, .dat TL.rI row, .any]) ((ifn h1)) (.keep (.keep (.keep (.drop .nil))))
    refine gs_G (G' := [.dat (rSr mg) self, .dat TL.rI step, .dat TL.rI row, .any]) rfl ?_
    exact gs_endR (Gs := fun (z : Unit) => [.dat (rSr mg) self, .dat TL.rI step, .any, .any]) ((outR_end hzE2)) (.keep (.keep (.drop (.drop .nil))))
  refine gs_G (G' := [.dat (rSr mg) self, .dat TL.rI step, .any, .any]) rfl ?_
  exact gs_ret x_noneI (hret _ _ ⟨congrArg (fun z => (Ent.dat (rO TL.rI) z : Ent)) (show (none : (Option Int)) = m_undivided self step from Eq.symm ((outR_end hzE2))), rfl, posted_any⟩)
theorem ok_undivided (T : Txs K mg) : MCal P w K mg base "undivided" ["self", "step"] (sp_undivided mg).sp 1 := by
  obtain ⟨CA, f, fd, h1, h2, h3, Fn, hb⟩ := T.c_undivided.ex
  exact ⟨CA, f, fd, h1, h2, h3, fn_undivided T Fn, hb⟩
end
section
variable {P : Program} {w : World} {K : PySem.W.Frag} {mg : Str → Option Value} {base : Heap}
theorem ok_row_to (T : Txs K mg) : MCal P w K mg base "row_to" ["self", "one", "often", "other"] (ms_row_to.sp mg) 1 := by
  obtain ⟨CA, f, fd, h1, h2, h3, Fn, hb⟩ := T.c_row_to.ex
  exact ⟨CA, f, fd, h1, h2, h3, fn_row_to T Fn, hb⟩
theorem ok_column_to (T : Txs K mg) : MCal P w K mg base "column_to" ["self", "one", "often", "other"] (ms_column_to.sp mg) 1 := by
  obtain ⟨CA, f, fd, h1, h2, h3, Fn, hb⟩ := T.c_column_to.ex
  exact ⟨CA, f, fd, h1, h2, h3, fn_column_to T Fn, hb⟩
theorem ok_rows_changed (T : Txs K mg) : MCal P w K mg base "rows_changed" ["self", "one", "other"] (ms_rows_changed.sp mg) 1 := by
  obtain ⟨CA, f, fd, h1, h2, h3, Fn, hb⟩ := T.c_rows_changed.ex
  exact ⟨CA, f, fd, h1, h2, h3, fn_rows_changed T Fn, hb⟩
theorem ok_columns_changed (T : Txs K mg) : MCal P w K mg base "columns_changed" ["self", "one", "other"] (ms_columns_changed.sp mg) 1 := by
  obtain ⟨CA, f, fd, h1, h2, h3, Fn, hb⟩ := T.c_columns_changed.ex
  exact ⟨CA, f, fd, h1, h2, h3, fn_columns_changed T Fn, hb⟩
theorem ok_row_contrary (T : Txs K mg) : MCal P w K mg base "row_contrary" ["self", "one"] (ms_row_contrary.sp mg) 1 := by
  obtain ⟨CA, f, fd, h1, h2, h3, Fn, hb⟩ := T.c_row_contrary.ex
  exact ⟨CA, f, fd, h1, h2, h3, fn_row_contrary T Fn, hb⟩
end
abbrev n_cleared : List Str := ["self", "step", "row", "often", "column"]
theorem sc_cleared : FnScope n_cleared ["self", "step"] (defScope s_cleared) := ⟨rfl, rfl, rfl, by decide +kernel, rfl, by decide +kernel, by decide +kernel⟩
def ms_cleared : MS (K1 PCl) := { st := fun x => x.1.1, args := fun x => [x.1.2], post := fun x => m_cleared x.1.1 x.1.2, res := fun _ => .non }
section
variable {P : Program} {w : World} {K : PySem.W.Frag} {mg : Str → Option Value} {base : Heap}
theorem fn_cleared (T : Txs K mg) {f : Addr} {fd : FuncData} (Fn : Fun K "cleared" "Stepper.cleared" s_cleared f fd) : FnOk P w K mg base CX0 2 f fd ["self", "step"] (ms_cleared.sp mg) := by
  refine fs_okS Fn sc_cleared (fun _ => rfl) fun cdv_ A_ outer_ s_ H_ E_ x_ v_ C_ D_ hlk hr hret hnx => ?_
  obtain ⟨⟨s, step⟩, hp⟩ := x_
  have hp : PCl s step := hp
  have h0 := hp.n0
  have h1 := hp.n1
  have h2 := hp.n2
  have h3 := hp.n3
  have h4 := hp.n4
  refine gs_G (G' := [.dat (rSx mg (Fresh C_) v_) s, .dat TL.rI step, .any, .any, .any]) rfl ?_
  refine gs_forRF1 (S := SS) 2 (kr_rng2 (n := step + (1 : Int)) (m := s.n) T.b_range (a_cons (x_add (x_var 1 rfl) x_int) (a_cons (x_srRows T.cls (x_stSelf (x_var 0 rfl))) a_nil)) (by omega)) (fun z => [.dat (rSx mg (Fresh C_) v_) z, .dat TL.rI step, .any, .any, .any]) s (clR step) (.keep (.keep (.keep (.keep (.keep .nil))))) (fun i row z hi hz => ?_) ?_ sc_cleared.nd rfl (Or.inl rfl)
  · have hv := mem_rng2 (List.mem_of_getElem? hi)
    have ok := hp.r i row hi
    rw [← hz] at ok
    have hnm := fold_nm (f := clR step) (fun _ _ => clR_nm) ((rng2 (step + 1) s.n).take i) s
    rw [← hz] at hnm
    have en : z.n = s.n := hnm.1
    have em : z.m = s.m := hnm.2
    refine gs_G (G' := [.dat (rSx mg (Fresh C_) v_) z, .dat TL.rI step, .dat TL.rI row, .any, .any]) rfl ?_
    refine gs_set (i := 3) sc_cleared.nd rfl (Or.inl rfl) (e := .dat TL.rI (Int.fdiv (at2 (z.tb .T) row step) (at2 (z.tb .T) step step)))
      (x_fdivX (x_ixL (rl_dat (x_ixL (rl_dat (x_srTab .T T.cls (x_stSelf (x_var 0 rfl)))) (x_var 2 rfl) (getA_at (by omega) (by rw [ok.sh.T.1]; omega)))) (x_var 1 rfl) (getA_at h0 (by rw [(ok.sh.T.get (k := row) (by omega) (by omega)).2]; omega)))
        (x_ixL (rl_dat (x_ixL (rl_dat (x_srTab .T T.cls (x_stSelf (x_var 0 rfl)))) (x_var 1 rfl) (getA_at h0 (by rw [ok.sh.T.1]; omega)))) (x_var 1 rfl) (getA_at h0 (by rw [(ok.sh.T.get (k := step) (by omega) (by omega)).2]; omega))) ok.dv) ?_
    refine gs_G (G' := [.dat (rSx mg (Fresh C_) v_) z, .dat TL.rI step, .dat TL.rI row, .dat TL.rI (Int.fdiv (at2 (z.tb .T) row step) (at2 (z.tb .T) step step)), .any]) rfl ?_
    refine gs_if (t_ne (x_var 3 rfl) x_int) (fun hc => ?_) (fun hc => ?_)
    · have hc : Int.fdiv (at2 (z.tb .T) row step) (at2 (z.tb .T) step step) ≠ 0 := by simpa using hc
      have k1 : step < z.n := by omega
      have k2 : 0 ≤ row := by omega
      have k3 : row < z.n := by omega
      refine gs_stCall (F := ms_row_to) 0 (ok_row_to T) (hr.mono (by decide)) ⟨(z, step, -(Int.fdiv (at2 (z.tb .T) row step) (at2 (z.tb .T) step step)), row), ⟨ok.sh, h0, k1, k2, k3, sm_neg ok.so, ok.sm⟩⟩ hlk (fun _ => Iff.rfl) rfl (a_cons (x_var 1 rfl) (a_cons (x_neg (x_var 3 rfl)) (a_cons (x_var 2 rfl) a_nil))) rfl (.any (.dat firm_T (.dat firm_T (.dat firm_T (.any .nil))))) ?_
      refine gs_nil ?_
      exact gs_endB (Gs := fun z => [.dat (rSx mg (Fresh C_) v_) z, .dat TL.rI step, .any, .any, .any]) (show clR step z row = _ from if_pos hc) (.keep (.keep (.drop (.drop (.keep .nil)))))
    · have hc : Int.fdiv (at2 (z.tb .T) row step) (at2 (z.tb .T) step step) = 0 := by simpa using hc
      refine gs_nil ?_
      exact gs_endB (Gs := fun z => [.dat (rSx mg (Fresh C_) v_) z, .dat TL.rI step, .any, .any, .any]) (show clR step z row = z from if_neg (by rw [hc]; decide)) (.keep (.keep (.drop (.drop (.keep .nil)))))
  have hnm1 := fold_nm (f := clR step) (fun _ _ => clR_nm) (rng2 (step + 1) s.n) s
  have hcc := hp.c
  have hpost : m_cleared s step = (rng2 (step + 1) s.m).foldl (clC step) ((rng2 (step + 1) s.n).foldl (clR step) s) := rfl
  generalize hs1 : (rng2 (step + 1) s.n).foldl (clR step) s = s1 at hnm1 hcc hpost ⊢
  refine gs_G (G' := [.dat (rSx mg (Fresh C_) v_) s1, .dat TL.rI step, .any, .any, .any]) rfl ?_
  have e1n : s1.n = s.n := hnm1.1
  have e1m : s1.m = s.m := hnm1.2
  refine gs_forRF1 (S := SS) 4 (kr_rng2 (n := step + (1 : Int)) (m := s1.m) T.b_range (a_cons (x_add (x_var 1 rfl) x_int) (a_cons (x_srCols T.cls (x_stSelf (x_var 0 rfl))) a_nil)) (by omega)) (fun z => [.dat (rSx mg (Fresh C_) v_) z, .dat TL.rI step, .any, .any, .any]) s1 (clC step) (.keep (.keep (.keep (.keep (.keep .nil))))) (fun i col z hi hz => ?_) ?_ sc_cleared.nd rfl (Or.inl rfl)
  · rw [e1m] at hi hz
    have hv := mem_rng2 (List.mem_of_getElem? hi)
    have ok := hcc i col hi
    rw [← hz] at ok
    have hnm := fold_nm (f := clC step) (fun _ _ => clC_nm) ((rng2 (step + 1) s.m).take i) s1
    rw [← hz] at hnm
    have en : z.n = s.n := hnm.1.trans e1n
    have em : z.m = s.m := hnm.2.trans e1m
    have k1 : step < z.m := by omega
    have k2 : 0 ≤ col := by omega
    have k3 : col < z.m := by omega
    refine gs_G (G' := [.dat (rSx mg (Fresh C_) v_) z, .dat TL.rI step, .any, .any, .dat TL.rI col]) rfl ?_
    refine gs_set (i := 3) sc_cleared.nd rfl (Or.inl rfl) (e := .dat TL.rI (Int.fdiv (at2 (z.tb .T) step col) (at2 (z.tb .T) step step)))
      (x_fdivX (x_ixL (rl_dat (x_ixL (rl_dat (x_srTab .T T.cls (x_stSelf (x_var 0 rfl)))) (x_var 1 rfl) (getA_at h0 (by rw [ok.sh.T.1]; omega)))) (x_var 4 rfl) (getA_at k2 (by rw [(ok.sh.T.get (k := step) (by omega) (by omega)).2]; omega)))
        (x_ixL (rl_dat (x_ixL (rl_dat (x_srTab .T T.cls (x_stSelf (x_var 0 rfl)))) (x_var 1 rfl) (getA_at h0 (by rw [ok.sh.T.1]; omega)))) (x_var 1 rfl) (getA_at h0 (by rw [(ok.sh.T.get (k := step) (by omega) (by omega)).2]; omega))) ok.dv) ?_
    refine gs_G (G' := [.dat (rSx mg (Fresh C_) v_) z, .dat TL.rI step, .any, .dat TL.rI (Int.fdiv (at2 (z.tb .T) step col) (at2 (z.tb .T) step step)), .dat TL.rI col]) rfl ?_
    refine gs_if (t_ne (x_var 3 rfl) x_int) (fun hc => ?_) (fun hc => ?_)
    · have hc : Int.fdiv (at2 (z.tb .T) step col) (at2 (z.tb .T) step step) ≠ 0 := by simpa using hc
      refine gs_stCall (F := ms_column_to) 0 (ok_column_to T) (hr.mono (by decide)) ⟨(z, step, -(Int.fdiv (at2 (z.tb .T) step col) (at2 (z.tb .T) step step)), col), ⟨ok.sh, h0, k1, k2, k3, sm_neg ok.so, ok.sm⟩⟩ hlk (fun _ => Iff.rfl) rfl (a_cons (x_var 1 rfl) (a_cons (x_neg (x_var 3 rfl)) (a_cons (x_var 4 rfl) a_nil))) rfl (.any (.dat firm_T (.any (.dat firm_T (.dat firm_T .nil))))) ?_
      refine gs_nil ?_
      exact gs_endB (Gs := fun z => [.dat (rSx mg (Fresh C_) v_) z, .dat TL.rI step, .any, .any, .any]) (show clC step z col = _ from if_pos hc) (.keep (.keep (.keep (.drop (.drop .nil)))))
    · have hc : Int.fdiv (at2 (z.tb .T) step col) (at2 (z.tb .T) step step) = 0 := by simpa using hc
      refine gs_nil ?_
      exact gs_endB (Gs := fun z => [.dat (rSx mg (Fresh C_) v_) z, .dat TL.rI step, .any, .any, .any]) (show clC step z col = z from if_neg (by rw [hc]; decide)) (.keep (.keep (.keep (.drop (.drop .nil)))))
  rw [e1m, ← hpost]
  exact gs_endN (hnx _ rfl rfl)
theorem ok_cleared (T : Txs K mg) : MCal P w K mg base "cleared" ["self", "step"] (ms_cleared.sp mg) 2 := by
  obtain ⟨CA, f, fd, h1, h2, h3, Fn, hb⟩ := T.c_cleared.ex
  exact ⟨CA, f, fd, h1, h2, h3, fn_cleared T Fn, hb⟩
end
def doF (step : Int) (s : SS) : (Bool × SS) ⊕ SS :=
  match m_least_from s step with
  | none => .inl (false, s)
  | some pl =>
    if m_is_clear (m_cleared (m_columns_changed (m_rows_changed s step pl.2.1) step pl.2.2) step) step = true then
      match m_undivided (m_cleared (m_columns_changed (m_rows_changed s step pl.2.1) step pl.2.2) step) step with
      | none => .inl (true, m_cleared (m_columns_changed (m_rows_changed s step pl.2.1) step pl.2.2) step)
      | some row => .inr (m_cleared (m_row_to (m_cleared (m_columns_changed (m_rows_changed s step pl.2.1) step pl.2.2) step) row 1 step) step)
    else .inr (m_cleared (m_columns_changed (m_rows_changed s step pl.2.1) step pl.2.2) step)
def doN (s : SS) (step : Int) : Nat :=
  match m_least_from s step with
  | none => 1
  | some pl => pl.1.toNat + 1
def m_do (s : SS) (step : Int) : Bool × SS :=
  match whileR (doN s step) (fun _ => true) (doF step) s with
  | .inl r => r
  | .inr z => (false, z)
structure OkD (z : SS) (step : Int) : Prop where
  sh : Shape z
  pl : ∀ pl, m_least_from z step = some pl → step ≤ pl.2.1 ∧ pl.2.1 < z.n ∧ step ≤ pl.2.2 ∧ pl.2.2 < z.m
  cl : ∀ pl, m_least_from z step = some pl → PCl (m_columns_changed (m_rows_changed z step pl.2.1) step pl.2.2) step
  sw : ∀ pl, m_least_from z step = some pl → Shape (m_rows_changed z step pl.2.1)
  s2 : ∀ pl, m_least_from z step = some pl → Shape (m_cleared (m_columns_changed (m_rows_changed z step pl.2.1) step pl.2.2) step) ∧ at2 ((m_cleared (m_columns_changed (m_rows_changed z step pl.2.1) step pl.2.2) step).tb .T) step step ≠ 0
  un : ∀ pl row, m_least_from z step = some pl → m_is_clear (m_cleared (m_columns_changed (m_rows_changed z step pl.2.1) step pl.2.2) step) step = true → m_undivided (m_cleared (m_columns_changed (m_rows_changed z step pl.2.1) step pl.2.2) step) step = some row →
    PRow (m_cleared (m_columns_changed (m_rows_changed z step pl.2.1) step pl.2.2) step) row 1 step ∧ PCl (m_row_to (m_cleared (m_columns_changed (m_rows_changed z step pl.2.1) step pl.2.2) step) row 1 step) step
structure PDo (s : SS) (step : Int) : Prop where
  n0 : 0 ≤ step
  n1 : step < s.n
  n2 : step < s.m
  n3 : s.n ≤ 1000
  n4 : s.m ≤ 1000
  ok : ∀ (i : Nat) (z : SS), i < doN s step → whileR i (fun _ => true) (doF step) s = .inr z → OkD z step
  en : ∀ z, whileR (doN s step) (fun _ => true) (doF step) s ≠ .inr z
theorem cleared_nm {s : SS} {step : Int} : (m_cleared s step).n = s.n ∧ (m_cleared s step).m = s.m := by
  have h1 := fold_nm (f := clR step) (fun _ _ => clR_nm) (rng2 (step + 1) s.n) s
  have h2 := fold_nm (f := clC step) (fun _ _ => clC_nm) (rng2 (step + 1) s.m) ((rng2 (step + 1) s.n).foldl (clR step) s)
  exact ⟨h2.1.trans h1.1, h2.2.trans h1.2⟩
theorem doF_nm {step : Int} {s z : SS} (h : doF step s = .inr z) : z.n = s.n ∧ z.m = s.m := by
  unfold doF at h
  split at h
  · cases h
  · rename_i pl _
    have k := cleared_nm (s := m_columns_changed (m_rows_changed s step pl.2.1) step pl.2.2) (step := step)
    split at h
    · split at h
      · cases h
      · rename_i row _
        cases h
        have k2 := cleared_nm (s := m_row_to (m_cleared (m_columns_changed (m_rows_changed s step pl.2.1) step pl.2.2) step) row 1 step) (step := step)
        exact ⟨k2.1.trans k.1, k2.2.trans k.2⟩
    · cases h; exact k
theorem doW_nm {step : Int} : ∀ (i : Nat) {s z : SS}, whileR i (fun _ => true) (doF step) s = .inr z → z.n = s.n ∧ z.m = s.m
  | 0, s, z, h => by cases h; exact ⟨rfl, rfl⟩
  | i + 1, s, z, h => by
    rw [whileR, if_pos rfl] at h
    cases e : doF step s with
    | inl r => rw [e] at h; cases h
    | inr s' =>
      rw [e] at h
      have k1 := doF_nm e
      have k2 := doW_nm i h
      exact ⟨k2.1.trans k1.1, k2.2.trans k1.2⟩
abbrev n_do : List Str := ["self", "step", "place", "row"]
theorem sc_do : FnScope n_do ["self", "step"] (defScope s_do) := ⟨rfl, rfl, rfl, by decide +kernel, rfl, by decide +kernel, by decide +kernel⟩
def ms_do : MS (K1 PDo) := { st := fun x => x.1.1, args := fun x => [x.1.2], post := fun x => (m_do x.1.1 x.1.2).2, res := fun x => .bl (m_do x.1.1 x.1.2).1 }
section
variable {P : Program} {w : World} {K : PySem.W.Frag} {mg : Str → Option Value} {base : Heap}
theorem fn_do (T : Txs K mg) {f : Addr} {fd : FuncData} (Fn : Fun K "do" "Stepper.do" s_do f fd) : FnOk P w K mg base CX0 3 f fd ["self", "step"] (ms_do.sp mg) := by
  refine fs_okS Fn sc_do (fun _ => rfl) fun cdv_ A_ outer_ s_ H_ E_ x_ v_ C_ D_ hlk hr hret hnx => ?_
  obtain ⟨⟨s, step⟩, hp⟩ := x_
  have hp : PDo s step := hp
  have h0 := hp.n0
  have h1 := hp.n1
  have h2 := hp.n2
  have h3 := hp.n3
  have h4 := hp.n4
  refine gs_G (G' := [.dat (rSx mg (Fresh C_) v_) s, .dat TL.rI step, .any, .any]) rfl ?_
  refine gs_whileM (S := SS) (ρ := Bool × SS) (doN s step) (fun z => [.dat (rSx mg (Fresh C_) v_) z, .dat TL.rI step, .any, .any]) (fun z => [.dat (rSx mg (Fresh C_) v_) z, .dat TL.rI step, .any, .any]) s (fun _ => true) (doF step) (.keep (.keep (.keep (.keep .nil)))) (fun z hz => absurd hz (hp.en z)) (fun i z _ _ B H σ O Q q => (t_v x_bl) B H σ O Q fun B' H' O' _ => q B' H' O') (fun i z hi hz _ => ?_) (fun z hz => absurd hz (hp.en z))
  have ok := hp.ok i z hi hz
  have hnm := doW_nm i hz
  have en : z.n = s.n := hnm.1
  have em : z.m = s.m := hnm.2
  have back : ∀ r, doF step z = .inl r → m_do s step = r := fun r h => by
    unfold m_do
    rw [whileR_ret hz hi rfl h]
  refine gs_setO (i := 2) sc_do.nd rfl (Or.inl rfl) (x_meth (ok_least_from T) (hr.mono (by decide)) ⟨(z, step), ⟨ok.sh, by show z.n ≤ 1000; omega, by show z.m ≤ 1000; omega, h0, by show step ≤ 1000; omega⟩⟩ (x_stSelf (x_var 0 rfl)) (a_cons (x_var 1 rfl) a_nil) (.cons (.cons .nil)) rfl) (fun hm => ?_) (fun pl hm => ?_)
  · refine gs_G (G' := [.dat (rSx mg (Fresh C_) v_) z, .dat TL.rI step, .dat TL.rN (), .any]) rfl ?_
    refine gs_if (t_isNN (x_var 2 rfl)) (fun _ => ?_) (fun hb => absurd hb (by decide))
    have hm : m_least_from z step = none := hm
    have e := back (false, z) (by unfold doF; rw [hm])
    refine gs_ret x_bl (hret _ _ (show _ = some (Ent.dat _ (m_do s step).2) from by rw [e]; rfl) fun C' B H u hu => ?_)
    obtain ⟨u', e1, e2⟩ := hu
    cases e1
    show u = .bl (m_do s step).1
    rw [e]; exact e2
  · have hm : m_least_from z step = some pl := hm
    obtain ⟨b1, b2, b3, b4⟩ := ok.pl pl hm
    have hc := ok.cl pl hm
    have hs2 := ok.s2 pl hm
    have hun := fun row => ok.un pl row hm
    have hF : doF step z = if m_is_clear (m_cleared (m_columns_changed (m_rows_changed z step pl.2.1) step pl.2.2) step) step = true then
      match m_undivided (m_cleared (m_columns_changed (m_rows_changed z step pl.2.1) step pl.2.2) step) step with
      | none => .inl (true, m_cleared (m_columns_changed (m_rows_changed z step pl.2.1) step pl.2.2) step)
      | some row => .inr (m_cleared (m_row_to (m_cleared (m_columns_changed (m_rows_changed z step pl.2.1) step pl.2.2) step) row 1 step) step)
      else .inr (m_cleared (m_columns_changed (m_rows_changed z step pl.2.1) step pl.2.2) step) := by
      show (match m_least_from z step with | none => _ | some pl => _) = _
      rw [hm]
    have cn : (m_cleared (m_columns_changed (m_rows_changed z step pl.2.1) step pl.2.2) step).n = z.n := cleared_nm.1
    have cm : (m_cleared (m_columns_changed (m_rows_changed z step pl.2.1) step pl.2.2) step).m = z.m := cleared_nm.2
    refine gs_G (G' := [.dat (rSx mg (Fresh C_) v_) z, .dat TL.rI step, .dat (TL.rP3 TL.rI TL.rI TL.rI) pl, .any]) rfl ?_
    refine gs_if (t_isNO (x_var 2 rfl)) (fun hb => absurd hb (by decide)) (fun _ => ?_)
    refine gs_nil ?_
    refine gs_stCall (F := ms_rows_changed) 0 (ok_rows_changed T) (hr.mono (by decide)) ⟨(z, step, pl.2.1), ⟨ok.sh, h0, (by omega : step < z.n), (by omega : 0 ≤ pl.2.1), b2⟩⟩ hlk (fun _ => Iff.rfl) rfl (a_cons (x_var 1 rfl) (a_cons (x_t1 (v := pl) (x_var 2 rfl)) a_nil)) rfl (.any (.dat firm_T (.dat firm_T (.any .nil)))) ?_
    refine gs_G (G' := [.dat (rSx mg (Fresh C_) v_) (m_rows_changed z step pl.2.1), .dat TL.rI step, .dat (TL.rP3 TL.rI TL.rI TL.rI) pl, .any]) rfl ?_
    refine gs_stCall (F := ms_columns_changed) 0 (ok_columns_changed T) (hr.mono (by decide)) ⟨(m_rows_changed z step pl.2.1, step, pl.2.2), ⟨ok.sw pl hm, h0, (show step < z.m from by omega), (by omega : 0 ≤ pl.2.2), b4⟩⟩ hlk (fun _ => Iff.rfl) rfl (a_cons (x_var 1 rfl) (a_cons (x_t2 (v := pl) (x_var 2 rfl)) a_nil)) rfl (.any (.dat firm_T (.dat firm_T (.any .nil)))) ?_
    refine gs_G (G' := [.dat (rSx mg (Fresh C_) v_) (m_columns_changed (m_rows_changed z step pl.2.1) step pl.2.2), .dat TL.rI step, .dat (TL.rP3 TL.rI TL.rI TL.rI) pl, .any]) rfl ?_
    refine gs_stCall (F := ms_cleared) 0 (ok_cleared T) (hr.mono (by decide)) ⟨(m_columns_changed (m_rows_changed z step pl.2.1) step pl.2.2, step), hc⟩ hlk (fun _ => Iff.rfl) rfl (a_cons (x_var 1 rfl) a_nil) rfl (.any (.dat firm_T (.dat firm_T (.any .nil)))) ?_
    generalize hz2 : m_cleared (m_columns_changed (m_rows_changed z step pl.2.1) step pl.2.2) step = z2 at hs2 hun hF cn cm
    refine gs_G (G' := [.dat (rSx mg (Fresh C_) v_) z2, .dat TL.rI step, .dat (TL.rP3 TL.rI TL.rI TL.rI) pl, .any]) (by rw [← hz2]; rfl) ?_
    have q1 : step < z2.n := by omega
    have q2 : step < z2.m := by omega
    have q3 : z2.n ≤ 1000 := by omega
    have q4 : z2.m ≤ 1000 := by omega
    refine gs_if (t_v (x_meth (ok_is_clear T) (hr.mono (by decide)) ⟨(z2, step), ⟨hs2.1, q3, q4, h0, q1, q2⟩⟩ (x_stSelf (x_var 0 rfl)) (a_cons (x_var 1 rfl) a_nil) (.cons (.cons .nil)) rfl)) (fun hcl => ?_) (fun hcl => ?_)
    · have hcl : m_is_clear z2 step = true := hcl
      rw [if_pos hcl] at hF
      refine gs_setO (i := 3) sc_do.nd rfl (Or.inl rfl) (x_meth (ok_undivided T) (hr.mono (by decide)) ⟨(z2, step), ⟨hs2.1, q3, q4, h0, q1, q2, hs2.2⟩⟩ (x_stSelf (x_var 0 rfl)) (a_cons (x_var 1 rfl) a_nil) (.cons (.cons .nil)) rfl) (fun hu => ?_) (fun row hu => ?_)
      · have hu : m_undivided z2 step = none := hu
        rw [hu] at hF
        refine gs_G (G' := [.dat (rSx mg (Fresh C_) v_) z2, .dat TL.rI step, .dat (TL.rP3 TL.rI TL.rI TL.rI) pl, .dat TL.rN ()]) rfl ?_
        refine gs_if (t_isNN (x_var 3 rfl)) (fun _ => ?_) (fun hb => absurd hb (by decide))
        have e := back (true, z2) hF
        refine gs_ret x_bl (hret _ _ (show _ = some (Ent.dat _ (m_do s step).2) from by rw [e]; rfl) fun C' B H u hu => ?_)
        obtain ⟨u', e1, e2⟩ := hu
        cases e1
        show u = .bl (m_do s step).1
        rw [e]; exact e2
      · have hu : m_undivided z2 step = some row := hu
        obtain ⟨k1, k2⟩ := hun row hcl hu
        rw [hu] at hF
        refine gs_G (G' := [.dat (rSx mg (Fresh C_) v_) z2, .dat TL.rI step, .dat (TL.rP3 TL.rI TL.rI TL.rI) pl, .dat TL.rI row]) rfl ?_
        refine gs_if (t_isNO (x_var 3 rfl)) (fun hb => absurd hb (by decide)) (fun _ => ?_)
        refine gs_nil ?_
        refine gs_stCall (F := ms_row_to) 0 (ok_row_to T) (hr.mono (by decide)) ⟨(z2, row, 1, step), k1⟩ hlk (fun _ => Iff.rfl) rfl (a_cons (x_var 3 rfl) (a_cons x_int (a_cons (x_var 1 rfl) a_nil))) rfl (.any (.dat firm_T (.dat firm_T (.dat firm_T .nil)))) ?_
        refine gs_G (G' := [.dat (rSx mg (Fresh C_) v_) (m_row_to z2 row 1 step), .dat TL.rI step, .dat (TL.rP3 TL.rI TL.rI TL.rI) pl, .dat TL.rI row]) rfl ?_
        refine gs_stCall (F := ms_cleared) 0 (ok_cleared T) (hr.mono (by decide)) ⟨(m_row_to z2 row 1 step, step), k2⟩ hlk (fun _ => Iff.rfl) rfl (a_cons (x_var 1 rfl) a_nil) rfl (.any (.dat firm_T (.dat firm_T (.dat firm_T .nil)))) ?_
        refine gs_nil ?_
        exact gs_endW (Gs := fun z => [.dat (rSx mg (Fresh C_) v_) z, .dat TL.rI step, .any, .any]) hF (.keep (.keep (.drop (.drop .nil))))
    · have hcl : m_is_clear z2 step = false := hcl
      rw [if_neg (by rw [hcl]; decide)] at hF
      refine gs_nil ?_
      exact gs_endW (Gs := fun z => [.dat (rSx mg (Fresh C_) v_) z, .dat TL.rI step, .any, .any]) hF (.keep (.keep (.drop (.keep .nil))))
theorem ok_do (T : Txs K mg) : MCal P w K mg base "do" ["self", "step"] (ms_do.sp mg) 3 := by
  obtain ⟨CA, f, fd, h1, h2, h3, Fn, hb⟩ := T.c_do.ex
  exact ⟨CA, f, fd, h1, h2, h3, fn_do T Fn, hb⟩
end
abbrev PSt : Type := SS × List Int × Int
def mnS (s : SS) : Int := if s.m < s.n then s.m else s.n
def paT (z : PSt) : Bool := decide (z.2.2 < mnS z.1) && (m_do z.1 z.2.2).1
def paG (z : PSt) : SS := if decide (z.2.2 < mnS z.1) = true then (m_do z.1 z.2.2).2 else z.1
def paS (z : PSt) : SS := if decide (at2 ((paG z).tb .T) z.2.2 z.2.2 < 0) = true then m_row_contrary (paG z) z.2.2 else paG z
def paF (z : PSt) : Unit ⊕ PSt := .inr (paS z, z.2.1 ++ [at2 ((paS z).tb .T) z.2.2 z.2.2], z.2.2 + 1)
def paN (s : SS) : Nat := (mnS s).toNat + 1
def m_paper (s : SS) : SS × List Int :=
  match whileR (paN s) paT paF (s, [], 0) with
  | .inl _ => (s, [])
  | .inr z => (paG z, z.2.1)
structure OkP (z : PSt) : Prop where
  k0 : 0 ≤ z.2.2
  ln : z.2.1.length ≤ 1000
  dd : z.2.2 < mnS z.1 → PDo z.1 z.2.2
  sh : z.2.2 < mnS z.1 → (m_do z.1 z.2.2).1 = true → Shape (paG z) ∧ z.2.2 < (paG z).n ∧ z.2.2 < (paG z).m ∧ Shape (paS z) ∧ z.2.2 < (paS z).n ∧ z.2.2 < (paS z).m
structure PPa (s : SS) : Prop where
  ok : ∀ (i : Nat) (z : PSt), i ≤ paN s → whileR i paT paF (s, [], 0) = .inr z → OkP z
  en : ∀ z, whileR (paN s) paT paF (s, [], 0) = .inr z → paT z = false
abbrev n_paper : List Str := ["self", "steps", "step"]
theorem sc_paper : FnScope n_paper ["self"] (defScope s_paper) := ⟨rfl, rfl, rfl, by decide +kernel, rfl, by decide +kernel, by decide +kernel⟩
section
variable {P : Program} {w : World} {K : PySem.W.Frag} {mg : Str → Option Value} {base : Heap}
theorem fn_paper (T : Txs K mg) {f : Addr} {fd : FuncData} (Fn : Fun K "paper" "Stepper.paper" s_paper f fd) : FnOk P w K mg base CX0 4 f fd ["self"] (spP mg PPa m_paper) := by
  refine fs_okP Fn sc_paper fun cdv_ A_ outer_ s_ H_ E_ s v_ C_ D_ hp hlk hr hret => ?_
  refine gs_G (G' := [.dat (rSx mg (Fresh C_) v_) s, .any, .any]) rfl ?_
  refine gs_set (i := 1) sc_paper.nd rfl (Or.inl rfl) (e := .own false TL.rI ([] : List Int)) (x_list (r := TL.rI) a_nil .nil) ?_
  refine gs_set (i := 2) sc_paper.nd rfl (Or.inl rfl) (e := .dat TL.rI (0 : Int)) x_int ?_
  refine gs_G (G' := [.dat (rSx mg (Fresh C_) v_) s, .own false TL.rI ([] : List Int), .dat TL.rI (0 : Int)]) rfl ?_
  refine gs_whileM (S := PSt) (ρ := Unit) (paN s) (fun z => [.dat (rSx mg (Fresh C_) v_) z.1, .own false TL.rI z.2.1, .dat TL.rI z.2.2]) (fun z => [.dat (rSx mg (Fresh C_) v_) (paG z), .own false TL.rI z.2.1, .dat TL.rI z.2.2]) (s, [], 0) paT paF (.keep (.keep (.keep .nil))) hp.en (fun i z hi hz => ?_) (fun i z hi hz ht => ?_) (fun z hz => ?_)
  · have ok := hp.ok i z hi hz
    refine test_andM (F := ms_do) (k := decide (z.2.2 < mnS z.1)) (d := (m_do z.1 z.2.2).1) 0 (ok_do T) (hr.mono (by decide)) hlk (fun _ => Iff.rfl) (t_lt (x_var 2 rfl) (x_min2 T.b_min (x_srRows T.cls (x_stSelf (x_var 0 rfl))) (x_srCols T.cls (x_stSelf (x_var 0 rfl))))) rfl (.any (.own firm_T (.dat firm_T .nil))) (fun hk => ?_) (fun hk => ?_)
    · refine ⟨⟨(z.1, z.2.2), ok.dd (of_decide_eq_true hk)⟩, rfl, rfl, a_cons (x_var 2 rfl) a_nil, ?_⟩
      have e : paG z = (m_do z.1 z.2.2).2 := if_pos hk
      rw [e]; rfl
    · have e : paG z = z.1 := if_neg (by rw [hk]; decide)
      rw [e]
  · have ok := hp.ok i z (Nat.le_of_lt hi) hz
    have k0 := ok.k0
    have hk : z.2.2 < mnS z.1 := of_decide_eq_true (Bool.and_eq_true_iff.mp ht).1
    obtain ⟨a1, a2, a3, a4, a5, a6⟩ := ok.sh hk (Bool.and_eq_true_iff.mp ht).2
    refine gs_ifJ ((fun (q : SS) => [.dat (rSx mg (Fresh C_) v_) q, .own false TL.rI z.2.1, .dat TL.rI z.2.2]) (paS z)) (t_lt (x_ixL (rl_dat (x_ixL (rl_dat (x_srTab .T T.cls (x_stSelf (x_var 0 rfl)))) (x_var 2 rfl) (getA_at k0 (by rw [a1.T.1]; exact a2)))) (x_var 2 rfl) (getA_at k0 (by rw [(a1.T.get (k := z.2.2) k0 a2).2]; exact a3))) x_int) (fun h1 => ?_) (fun h1 => ?_) ?_
    · refine gs_stCall (F := ms_row_contrary) 0 (ok_row_contrary T) (hr.mono (by decide)) ⟨(paG z, z.2.2), ⟨a1, k0, a2⟩⟩ hlk (fun _ => Iff.rfl) rfl (a_cons (x_var 2 rfl) a_nil) rfl (.any (.own firm_T (.dat firm_T .nil))) ?_
      exact gs_endJ (Gs := fun (q : SS) => [.dat (rSx mg (Fresh C_) v_) q, .own false TL.rI z.2.1, .dat TL.rI z.2.2]) (show paS z = _ from if_pos h1) (.keep (.keep (.keep .nil)))
    · exact gs_endJ (Gs := fun (q : SS) => [.dat (rSx mg (Fresh C_) v_) q, .own false TL.rI z.2.1, .dat TL.rI z.2.2]) (show paS z = _ from if_neg (by rw [show decide (at2 ((paG z).tb .T) z.2.2 z.2.2 < 0) = false from h1]; decide)) (.keep (.keep (.keep .nil)))
    refine gs_expr (x_append 1 (v := at2 ((paS z).tb .T) z.2.2 z.2.2) (x_ixL (rl_dat (x_ixL (rl_dat (x_srTab .T T.cls (x_stSelf (x_var 0 rfl)))) (x_var 2 rfl) (getA_at k0 (by rw [a4.T.1]; exact a5)))) (x_var 2 rfl) (getA_at k0 (by rw [(a4.T.get (k := z.2.2) k0 a5).2]; exact a6))) rfl rfl (by have := ok.ln; show _ < 16777216; omega)) ?_
    refine gs_set (i := 2) sc_paper.nd rfl (Or.inl rfl) (e := .dat TL.rI (z.2.2 + (1 : Int))) (x_add (x_var 2 rfl) x_int) ?_
    exact gs_endW (Gs := fun z => [.dat (rSx mg (Fresh C_) v_) z.1, .own false TL.rI z.2.1, .dat TL.rI z.2.2]) (f := paF) (z := z) rfl (.keep (.keep (.keep .nil)))
  · have e : m_paper s = (paG z, z.2.1) := by unfold m_paper; rw [hz]
    refine gs_open 0 rfl fun a ea hap => ?_
    refine gs_G (G' := [.dat (rSt mg (Fresh C_) a) (paG z), .own false TL.rI z.2.1, .dat TL.rI z.2.2]) rfl ?_
    refine gs_ret (x_tupR (R := rowC rA (rowC rA (rowC rA (rowC rA (row1 (rNwS C_.H0 a.cell)))))) (v := (a.at_ .L, a.at_ .Lb, a.at_ .R, a.at_ .Rb, z.2.1)) (.cons (.cons (.cons (.cons .one)))) (a_cons (x_stFld .L T.cls (x_var 0 rfl)) (a_cons (x_stFld .Lb T.cls (x_var 0 rfl)) (a_cons (x_stFld .R T.cls (x_var 0 rfl)) (a_cons (x_stFld .Rb T.cls (x_var 0 rfl)) (a_cons (x_newS 0 (x_own 1 rfl) rfl) a_nil)))))) ?_
    have h := hret [.dat (rSt mg (Fresh C_) a) (paG z), .any, .dat TL.rI z.2.2] a (by rw [e]; rfl) ea
    rw [e] at h
    exact h
end
abbrev n_stInit : List Str := ["self", "table", "rows", "columns", "row"]
theorem sc_stInit : FnScope n_stInit ["self", "table", "rows", "columns"] (defScope s_stInit) := ⟨rfl, rfl, rfl, by decide +kernel, rfl, by decide +kernel, by decide +kernel⟩
section
variable {P : Program} {w : World} {K : PySem.W.Frag} {mg : Str → Option Value} {base : Heap}
theorem fn_stInit (T : Txs K mg) {f : Addr} {fd : FuncData} (Fn : Fun K "__init__" "Stepper.__init__" s_stInit f fd) : FnOk P w K mg base CX0 2 f fd ["self", "table", "rows", "columns"] (spInit mg m_even) := by
  refine Fn.ok sc_stInit (fun vs H Q E h => ?_) (fun cdv A outer s H vs Q E hr h => ?_)
  · obtain ⟨x, dx, CA, tv, n, m, t, B, rfl, _⟩ := h
    rfl
  · obtain ⟨x, dx, CA, tv, n, m, t, B, rfl, hm, hx, bx, ht, ⟨hn0, hn1, hm0, hm1⟩, kn, sm, q⟩ := h
    obtain ⟨CB, c1, c2, c3, c4, c5⟩ := T.cls.ex
    rw [hm] at c1
    cases c1
    refine ⟨_, pss_w _, ?_⟩
    have hp : ∀ (i : Nat) (e : Ent), ([.any, .dat (rL (rL TL.rI)) t, .dat TL.rI n, .dat TL.rI m, .any] : List Ent)[i]? = some e → e.odd = false := fun i e h => by
      match i, h with
      | 0, h => cases h; rfl
      | 1, h => cases h; rfl
      | 2, h => cases h; rfl
      | 3, h => cases h; rfl
      | 4, h => cases h; rfl
    have S0 : IS x CA dx [.any, .dat (rL (rL TL.rI)) t, .dat TL.rI n, .dat TL.rI m, .any] B H [] B H [some (.ref x), some tv, some (.int n), some (.int m), none] := by
      refine ⟨⟨Grow.refl kn (fun _ h => absurd h List.not_mem_nil) sm, fun b x e => (by cases e), rfl, fun i e ov hi hs => ?_, fun i j e e' p _ hi hj mm => ?_⟩, hx, bx, ?_, rfl⟩
      · match i, hi, hs with
        | 0, hi, hs => cases hi; trivial
        | 1, hi, hs => cases hi; cases hs; exact ⟨_, rfl, ht⟩
        | 2, hi, hs => cases hi; cases hs; exact ⟨_, rfl, rfl⟩
        | 3, hi, hs => cases hi; cases hs; exact ⟨_, rfl, rfl⟩
        | 4, hi, hs => cases hi; trivial
      · rw [odd_mine (hp i e hi)] at mm; cases mm
      · exact (Grow.refl (ms := []) kn (fun _ h => absurd h List.not_mem_nil) sm).cutx bx bx
    -- self.table = [list(row) for row in table]
    refine ini_T (f := "table") (t := t.map fun row => row) S0 hp c2 (c3 .T) (by show 0 < 1000; decide) (x_lc0T (f := fun (row : List Int) => row) 4 (k_list (x_var 1 rfl)) (noOwn_cons rfl rfl noOwn_nil) (fun C1 row hv _ _ _ _ _ => x_listL T.b_list (rl_dat (x_var 4 rfl))) sc_stInit.nd (blkOk_by (N := n_stInit) (sc := defScope s_stInit) (by decide +kernel)) (fun _ _ _ _ _ => pg_name sc_stInit.nd rfl (Or.inl rfl))) (fun q1 qs1 B1 H1 S1 s1 t1 nd1 fr1 => ?_) rfl
    rw [List.map_id'] at t1
    refine ini_I (f := "rows") (z := n) S1 hp c2 c4 (by show 1 < 1000; decide) (x_var 2 rfl) (fun B2 H2 S2 s2 => ?_) rfl
    refine ini_I (f := "columns") (z := m) S2 hp c2 c5 (by show 2 < 1000; decide) (x_var 3 rfl) (fun B3 H3 S3 s3 => ?_) rfl
    refine ini_T (f := "left") (t := m_even n) S3 hp c2 (c3 .L) (by show 3 < 1000; decide) (x_call (ok_even T) (hr.mono (by decide)) ⟨n, ⟨hn0, hn1⟩⟩ (a_cons (x_var 2 rfl) a_nil) (.cons .nil) rfl) (fun q4 qs4 B4 H4 S4 s4 t4 nd4 fr4 => ?_) rfl
    refine ini_T (f := "left_back") (t := m_even n) S4 hp c2 (c3 .Lb) (by show 4 < 1000; decide) (x_call (ok_even T) (hr.mono (by decide)) ⟨n, ⟨hn0, hn1⟩⟩ (a_cons (x_var 2 rfl) a_nil) (.cons .nil) rfl) (fun q5 qs5 B5 H5 S5 s5 t5 nd5 fr5 => ?_) rfl
    refine ini_T (f := "right") (t := m_even m) S5 hp c2 (c3 .R) (by show 5 < 1000; decide) (x_call (ok_even T) (hr.mono (by decide)) ⟨m, ⟨hm0, hm1⟩⟩ (a_cons (x_var 3 rfl) a_nil) (.cons .nil) rfl) (fun q6 qs6 B6 H6 S6 s6 t6 nd6 fr6 => ?_) rfl
    refine ini_T (f := "right_back") (t := m_even m) S6 hp c2 (c3 .Rb) (by show 6 < 1000; decide) (x_call (ok_even T) (hr.mono (by decide)) ⟨m, ⟨hm0, hm1⟩⟩ (a_cons (x_var 3 rfl) a_nil) (.cons .nil) rfl) (fun q7 qs7 B7 H7 S7 s7 t7 nd7 fr7 => ?_) rfl
    have u7 := s7
    have u6 := s6.trans u7
    have u5 := s5.trans u6
    have u4 := s4.trans u5
    have u3 := s3.trans u4
    have u2 := s2.trans u3
    have o14 := tab_off S3 t1 (s2.trans s3) fr4
    have o15 := tab_off S4 t1 ((s2.trans s3).trans s4) fr5
    have o16 := tab_off S5 t1 (((s2.trans s3).trans s4).trans s5) fr6
    have o17 := tab_off S6 t1 ((((s2.trans s3).trans s4).trans s5).trans s6) fr7
    have o45 := tab_off S4 t4 (Same.refl _) fr5
    have o46 := tab_off S5 t4 s5 fr6
    have o47 := tab_off S6 t4 (s5.trans s6) fr7
    have o56 := tab_off S5 t5 (Same.refl _) fr6
    have o57 := tab_off S6 t5 s6 fr7
    have o67 := tab_off S6 t6 (Same.refl _) fr7
    refine ⟨fun pins sh I => pss_nil.run pins sh _ H7 _ I ?_⟩
    refine q (upd B7 x _) H7 ⟨x, dx, fun f => match f with | .T => q1 | .L => q4 | .Lb => q5 | .R => q6 | .Rb => q7, fun f => match f with | .T => qs1 | .L => qs4 | .Lb => qs5 | .R => qs6 | .Rb => qs7⟩ (S7.gr.addx S7.hx S7.bx trivial) rfl ⟨rfl, ⟨CA, hm, ?_⟩, ap_of ?_ ?_, ?_, ?_⟩
    · rw [upd_same]; rfl
    · intro f
      cases f
      · exact nd1
      · exact nd4
      · exact nd5
      · exact nd6
      · exact nd7
    · have sy : ∀ {l l' : List Addr}, (∀ z ∈ l, z ∉ l') → ∀ z ∈ l', z ∉ l := fun h z hz hz' => h z hz' hz
      intro f g hfg
      cases f <;> cases g <;> first | exact absurd rfl hfg | exact o14 | exact o15 | exact o16 | exact o17 | exact o45 | exact o46 | exact o47 | exact o56 | exact o57 | exact o67 | exact sy o14 | exact sy o15 | exact sy o16 | exact sy o17 | exact sy o45 | exact sy o46 | exact sy o47 | exact sy o56 | exact sy o57 | exact sy o67
    · have old : ∀ {fs B2 H2} (S : IS x CA dx [.any, .dat (rL (rL TL.rI)) t, .dat TL.rI n, .dat TL.rI m, .any] B H fs B2 H2 [some (.ref x), some tv, some (.int n), some (.int m), none]) (z : Addr), H2 z = none → mnP (isA x) H z = none := fun {fs B2 H2} S z hz => by
        refine S.gr.old ?_
        have nz : ¬ isA x z := fun c => by
          have c : z = x := c
          rw [c, S.hx] at hz; cases hz
        rw [mnP_off nz]; exact hz
      have all : ∀ f : Fd, ∀ z ∈ (match f with | .T => q1 :: qs1 | .L => q4 :: qs4 | .Lb => q5 :: qs5 | .R => q6 :: qs6 | .Rb => q7 :: qs7 : List Addr), mnP (isA x) H z = none := fun f z hz => by
        cases f
        · exact old S0 z (fr1 z hz)
        · exact old S3 z (fr4 z hz)
        · exact old S4 z (fr5 z hz)
        · exact old S5 z (fr6 z hz)
        · exact old S6 z (fr7 z hz)
      intro z hz
      rcases hz with ⟨f, e⟩ | ⟨f, e⟩
      · refine all f z ?_
        rw [e]; cases f <;> exact List.mem_cons_self
      · refine all f z ?_
        cases f <;> exact List.mem_cons_of_mem _ e
    · have s8 : ∀ o, Same B7 (upd B7 x o) := fun o b u e => by rw [upd_ne (fun z => by rw [z, S7.bx] at e; cases e)]; exact e
      intro f
      cases f
      · exact (t1.mono u2).mono (s8 _)
      · exact (t4.mono u5).mono (s8 _)
      · exact (t5.mono u6).mono (s8 _)
      · exact (t6.mono u7).mono (s8 _)
      · exact t7.mono (s8 _)
end
def m_paper_of (table : Tbl) (rows columns : Int) : Pap := papOf (m_paper (ss0 rows columns table m_even))
def sp_paper_of : FS {x : Tbl × Int × Int // (0 ≤ x.2.1 ∧ x.2.1 ≤ 1000 ∧ 0 ≤ x.2.2 ∧ x.2.2 ≤ 1000) ∧ PPa (ss0 x.2.1 x.2.2 x.1 m_even)} := { args := fun x => [.dat (rL (rL TL.rI)) x.1.1, .dat TL.rI x.1.2.1, .dat TL.rI x.1.2.2], res := fun x => .tld fPap (m_paper_of x.1.1 x.1.2.1 x.1.2.2) }
abbrev n_paper_of : List Str := ["table", "rows", "columns"]
theorem sc_paper_of : FnScope n_paper_of ["table", "rows", "columns"] (defScope s_paper_of) := ⟨rfl, rfl, rfl, by decide +kernel, rfl, by decide +kernel, by decide +kernel⟩
section
variable {P : Program} {w : World} {K : PySem.W.Frag} {mg : Str → Option Value} {base : Heap}
theorem ok_stInit (T : Txs K mg) : ICal P w K mg base (spInit mg m_even) 2 := by
  obtain ⟨CA, f, fd, h1, h2, Fn, hb⟩ := T.mkS
  exact ⟨CA, f, fd, h1, h2, fn_stInit T Fn, hb⟩
theorem ok_paper (T : Txs K mg) : MCal P w K mg base "paper" ["self"] (spP mg PPa m_paper) 4 := by
  obtain ⟨CA, f, fd, h1, h2, h3, Fn, hb⟩ := T.c_paper.ex
  exact ⟨CA, f, fd, h1, h2, h3, fn_paper T Fn, hb⟩
theorem fn_paper_of (T : Txs K mg) {f : Addr} {fd : FuncData} (Fn : Fun K "paper_of" "paper_of" s_paper_of f fd) : FnOk P w K mg base CX0 5 f fd ["table", "rows", "columns"] (sp_paper_of).sp := by
  refine fs_ok Fn sc_paper_of (fun _ => rfl) (fun _ => rfl) fun cdv_ A_ outer_ s_ H_ E_ x_ C_ D_ hr hret hnx => ?_
  obtain ⟨⟨table, rows, columns⟩, hb, hpre⟩ := x_
  refine gs_G (G' := [.dat (rL (rL TL.rI)) table, .dat TL.rI rows, .dat TL.rI columns]) rfl ?_
  exact gs_ret (x_paperOf (ok_stInit T) (ok_paper T) (hr.mono (by decide)) (hr.mono (by decide)) (a_cons (x_var 0 rfl) (a_cons (x_var 1 rfl) (a_cons (x_var 2 rfl) a_nil))) hb hpre) (hret _ _ ⟨rfl, rfl, posted_any⟩)
theorem ok_paper_of (T : Txs K mg) : Callee P w K mg base CX0 "paper_of" ["table", "rows", "columns"] (sp_paper_of).sp 5 := by
  obtain ⟨f, fd, Fn, hm, hb⟩ := T.d_paper_of.ex
  exact ⟨f, fd, fn_paper_of T Fn, hm, Fn.kp, hb⟩
end
structure PapOk (n m : Int) (t : Tbl) : Prop where
  b : 0 ≤ n ∧ n ≤ 1000 ∧ 0 ≤ m ∧ m ≤ 1000
  pp : PPa (ss0 n m t m_even)
  sh : Shape (m_paper (ss0 n m t m_even)).1
  n_ : (m_paper (ss0 n m t m_even)).1.n = n
  m_ : (m_paper (ss0 n m t m_even)).1.m = m
  tb : ∃ B : Nat, B ≤ 30700000 ∧ ∀ f, ∀ row ∈ (m_paper (ss0 n m t m_even)).1.tb f, ∀ z ∈ row, z.natAbs < 2 ^ B
  st : ∀ d ∈ (m_paper (ss0 n m t m_even)).2, 0 < d ∧ d.natAbs < 2 ^ 9000
  ln : ((m_paper (ss0 n m t m_even)).2.length : Int) ≤ n ∧ ((m_paper (ss0 n m t m_even)).2.length : Int) ≤ m

end My

namespace My
open PySem PySem.Spec PyProof.Rows L2 TL
def m_stepped (table : (List (List Int))) : (Except Er ((List (List Int)) × (List (List Int)) × (List (List Int)) × (List (List Int)) × (List Int))) :=
  (thenE (m_must_be_table table) (fun v => (Except.ok (m_paper_of table ((table).length : Int) (m_width table)))))
theorem ers_stepped {table : (List (List Int))} : EI ERS (m_stepped table) := by
  unfold m_stepped
  repeat' (first | exact ei_ok | exact ei_er (by decide) | exact ers_must_be_table | apply ei_ite | refine ei_then ?_ fun _ => ?_ | refine ei_mapE fun _ => ?_)
abbrev sp_stepped (mg : Str → Option Value) : FS ({x : (List (List Int)) // m_is_table x = true → PapOk x.length (m_width x) x}) := FS.ofE mg (fun x => [.dat (rL (rL TL.rI)) x.1]) (fun x => (m_stepped x.1)) (fun v => .tld fPap v)
abbrev n_stepped : List Str := ["table"]
theorem sc_stepped : FnScope n_stepped ["table"] (defScope s_stepped) := ⟨rfl, rfl, rfl, by decide +kernel, rfl, by decide +kernel, by decide +kernel⟩
section
variable {P : Program} {w : World} {K : PySem.W.Frag} {mg : Str → Option Value} {base : Heap}
theorem fn_stepped (T : Txs K mg) {f : Addr} {fd : FuncData} (Fn : Fun K "stepped" "stepped" s_stepped f fd) : FnOk P w K mg base (L2.CX P w) 6 f fd ["table"] (sp_stepped mg).sp := by
  refine fs_okX2 Fn sc_stepped (fun _ => rfl) fun cdv_ A_ outer_ s_ H_ E_ x_ C_ D_ W_ hr tk0 hpo0 hret hnx hrz => ?_
  have hu65 := hu65_of hr; have hu64 := hu64_of hr; have hu1 := hu1_of hr
  obtain ⟨table, hpre⟩ := x_
  refine gs_G (G' := [.dat (rL (rL TL.rI)) table]) rfl ?_
  refine gs_exprX (ok_must_be_table T) (hr.mono (by decide)) tk0 (table) (a_cons (x_var 0 rfl) a_nil) (.cons .nil) (fun v hm1 => ?_) (fun ev hm1 B H σ O => hrz _ (ofE_er (show m_stepped table = .error ev from ((thenE_er hm1)))) _ B H σ O.bare)
  have hm1 : (m_must_be_table table) = .ok v := hm1
  exact gs_ret (x_call (ok_paper_of T) (hr.mono (by decide)) ⟨(table, ((table).length : Int), (m_width table)), (by have h9 := hpre (must_tb (t := table) (by assumption)); exact ⟨h9.b, h9.pp⟩)⟩ (a_cons (x_var 0 rfl) (a_cons (x_len T.b_len (rl_dat (x_var 0 rfl))) (a_cons (x_call (ok_width T) (hr.mono (by decide)) (table) (a_cons (x_var 0 rfl) a_nil) (.cons .nil) rfl) a_nil))) (.cons (.cons (.cons .nil))) rfl) (hret _ _ (endE (show m_stepped table = .ok (m_paper_of table ((table).length : Int) (m_width table)) from ((thenE_ok hm1)))))
theorem ok_stepped (T : Txs K mg) : Callee P w K mg base (L2.CX P w) "stepped" ["table"] (sp_stepped mg).sp 6 := by
  obtain ⟨f, fd, Fn, hm, hb⟩ := T.d_stepped.ex
  exact ⟨f, fd, fn_stepped T Fn, hm, Fn.kp, hb⟩
end
end My

namespace My
open PySem PySem.Spec PyProof.Rows L2 TL
def m_steps_of (table : (List (List Int))) : (Except Er (List Int)) :=
  (thenE (m_stepped table) (fun v => (Except.ok v.2.2.2.2)))
theorem ers_steps_of {table : (List (List Int))} : EI ERS (m_steps_of table) := by
  unfold m_steps_of
  repeat' (first | exact ei_ok | exact ei_er (by decide) | exact ers_stepped | apply ei_ite | refine ei_then ?_ fun _ => ?_ | refine ei_mapE fun _ => ?_)
abbrev sp_steps_of (mg : Str → Option Value) : FS ({x : (List (List Int)) // m_is_table x = true → PapOk x.length (m_width x) x}) := FS.ofE mg (fun x => [.dat (rL (rL TL.rI)) x.1]) (fun x => (m_steps_of x.1)) (fun v => .tld (fLs TL.rI) v)
abbrev n_steps_of : List Str := ["table"]
theorem sc_steps_of : FnScope n_steps_of ["table"] (defScope s_steps_of) := ⟨rfl, rfl, rfl, by decide +kernel, rfl, by decide +kernel, by decide +kernel⟩
section
variable {P : Program} {w : World} {K : PySem.W.Frag} {mg : Str → Option Value} {base : Heap}
theorem fn_steps_of (T : Txs K mg) {f : Addr} {fd : FuncData} (Fn : Fun K "steps_of" "steps_of" s_steps_of f fd) : FnOk P w K mg base (L2.CX P w) 7 f fd ["table"] (sp_steps_of mg).sp := by
  refine fs_okX2 Fn sc_steps_of (fun _ => rfl) fun cdv_ A_ outer_ s_ H_ E_ x_ C_ D_ W_ hr tk0 hpo0 hret hnx hrz => ?_
  have hu65 := hu65_of hr; have hu64 := hu64_of hr; have hu1 := hu1_of hr
  obtain ⟨table, hpre⟩ := x_
  refine gs_G (G' := [.dat (rL (rL TL.rI)) table]) rfl ?_
  refine byE (x := (m_stepped table)) (fun v hm1 => ?_) (fun ev hm1 => ?_)
  · exact gs_ret (x_papS (x_callX (ok_stepped T) (hr.mono (by decide)) ⟨(table), (by first | omega | (show _ ≤ 16777216; omega) | (show _ < 16777216; omega) | (simp only [Bool.and_eq_true, Bool.not_eq_true', Bool.not_eq_false', Bool.or_eq_false_iff, Bool.and_eq_false_iff, decide_eq_true_eq, decide_eq_false_iff_not] at *; omega) | decide +kernel | (show (0 : Int) < (10 : Int) ^ ((9 : Int)).toNat ∧ (10 : Int) ^ ((9 : Int)).toNat < 1000000000000000000000; decide))⟩ (a_cons (x_var 0 rfl) a_nil) (.cons .nil) (okX_res _ hm1) (okX_bad _ hm1))) (hret _ _ (endE (show m_steps_of table = .ok v.2.2.2.2 from ((thenE_ok hm1)))))
  · exact gs_ret (x_papS (x_callF (G2 := [.dat rNo ()]) (en := .tld fPap (default : ((List (List Int)) × (List (List Int)) × (List (List Int)) × (List (List Int)) × (List Int)))) (ok_stepped T) (hr.mono (by decide)) tk0 ⟨(table), (by first | omega | (show _ ≤ 16777216; omega) | (show _ < 16777216; omega) | (simp only [Bool.and_eq_true, Bool.not_eq_true', Bool.not_eq_false', Bool.or_eq_false_iff, Bool.and_eq_false_iff, decide_eq_true_eq, decide_eq_false_iff_not] at *; omega) | decide +kernel | (show (0 : Int) < (10 : Int) ^ ((9 : Int)).toNat ∧ (10 : Int) ^ ((9 : Int)).toNat < 1000000000000000000000; decide))⟩ (a_cons (x_var 0 rfl) a_nil) (.cons .nil) hm1 (fun B H σ O => hrz _ (ofE_er (show m_steps_of table = .error ev from ((thenE_er hm1)))) _ B H σ O.bare))) (retNo 0 rfl)
theorem ok_steps_of (T : Txs K mg) : Callee P w K mg base (L2.CX P w) "steps_of" ["table"] (sp_steps_of mg).sp 7 := by
  obtain ⟨f, fd, Fn, hm, hb⟩ := T.d_steps_of.ex
  exact ⟨f, fd, fn_steps_of T Fn, hm, Fn.kp, hb⟩
end
end My

namespace My
open PySem PySem.Spec PyProof.Rows L2 TL
def m_rank (table : (List (List Int))) : (Except Er Int) :=
  (thenE (m_steps_of table) (fun v => (Except.ok ((v).length : Int))))
abbrev sp_rank (mg : Str → Option Value) : FS ({x : (List (List Int)) // m_is_table x = true → PapOk x.length (m_width x) x}) := FS.ofE mg (fun x => [.dat (rL (rL TL.rI)) x.1]) (fun x => (m_rank x.1)) (fun v => .dat TL.rI v)
abbrev n_rank : List Str := ["table"]
theorem sc_rank : FnScope n_rank ["table"] (defScope s_rank) := ⟨rfl, rfl, rfl, by decide +kernel, rfl, by decide +kernel, by decide +kernel⟩
section
variable {P : Program} {w : World} {K : PySem.W.Frag} {mg : Str → Option Value} {base : Heap}
theorem fn_rank (T : Txs K mg) {f : Addr} {fd : FuncData} (Fn : Fun K "rank" "rank" s_rank f fd) : FnOk P w K mg base (L2.CX P w) 8 f fd ["table"] (sp_rank mg).sp := by
  refine fs_okX2 Fn sc_rank (fun _ => rfl) fun cdv_ A_ outer_ s_ H_ E_ x_ C_ D_ W_ hr tk0 hpo0 hret hnx hrz => ?_
  have hu65 := hu65_of hr; have hu64 := hu64_of hr; have hu1 := hu1_of hr
  obtain ⟨table, hpre⟩ := x_
  refine gs_G (G' := [.dat (rL (rL TL.rI)) table]) rfl ?_
  refine byE (x := (m_steps_of table)) (fun v hm1 => ?_) (fun ev hm1 => ?_)
  · exact gs_ret (x_len T.b_len (rl_dat (Ev.tldD fits_Ls (x_callX (ok_steps_of T) (hr.mono (by decide)) ⟨(table), (by first | omega | (show _ ≤ 16777216; omega) | (show _ < 16777216; omega) | (simp only [Bool.and_eq_true, Bool.not_eq_true', Bool.not_eq_false', Bool.or_eq_false_iff, Bool.and_eq_false_iff, decide_eq_true_eq, decide_eq_false_iff_not] at *; omega) | decide +kernel | (show (0 : Int) < (10 : Int) ^ ((9 : Int)).toNat ∧ (10 : Int) ^ ((9 : Int)).toNat < 1000000000000000000000; decide))⟩ (a_cons (x_var 0 rfl) a_nil) (.cons .nil) (okX_res _ hm1) (okX_bad _ hm1))))) (hret _ _ (endE (show m_rank table = .ok ((v).length : Int) from ((thenE_ok hm1)))))
  · exact gs_ret (x_len T.b_len (rl_dat (Ev.tldD fits_Ls (x_callF (G2 := [.dat rNo ()]) (en := .tld (fLs TL.rI) (default : (List Int))) (ok_steps_of T) (hr.mono (by decide)) tk0 ⟨(table), (by first | omega | (show _ ≤ 16777216; omega) | (show _ < 16777216; omega) | (simp only [Bool.and_eq_true, Bool.not_eq_true', Bool.not_eq_false', Bool.or_eq_false_iff, Bool.and_eq_false_iff, decide_eq_true_eq, decide_eq_false_iff_not] at *; omega) | decide +kernel | (show (0 : Int) < (10 : Int) ^ ((9 : Int)).toNat ∧ (10 : Int) ^ ((9 : Int)).toNat < 1000000000000000000000; decide))⟩ (a_cons (x_var 0 rfl) a_nil) (.cons .nil) hm1 (fun B H σ O => hrz _ (ofE_er (show m_rank table = .error ev from ((thenE_er hm1)))) _ B H σ O.bare))))) (retNo 0 rfl)
theorem ok_rank (T : Txs K mg) : Callee P w K mg base (L2.CX P w) "rank" ["table"] (sp_rank mg).sp 8 := by
  obtain ⟨f, fd, Fn, hm, hb⟩ := T.d_rank.ex
  exact ⟨f, fd, fn_rank T Fn, hm, Fn.kp, hb⟩
end
end My

namespace My
open PySem PySem.Spec PyProof.Rows L2 TL
def m_is_prime (number : Int) : Bool :=
  (if (!(decide ((2 : Int) ≤ number) && decide (number ≤ (100 : Int)))) = true then false else (((List.map (fun (other : Int) => ((!decide ((number % other) = (0 : Int))))) (rng2 (2 : Int) number))).all id))
def sp_is_prime : FS (Int) := { args := fun x => [.dat TL.rI x], res := fun x => .dat TL.rB (m_is_prime x) }
abbrev n_is_prime : List Str := ["number", "other"]
theorem sc_is_prime : FnScope n_is_prime ["number"] (defScope s_is_prime) := ⟨rfl, rfl, rfl, by decide +kernel, rfl, by decide +kernel, by decide +kernel⟩
section
variable {P : Program} {w : World} {K : PySem.W.Frag} {mg : Str → Option Value} {base : Heap}
theorem fn_is_prime (T : Txs K mg) {f : Addr} {fd : FuncData} (Fn : Fun K "is_prime" "is_prime" s_is_prime f fd) : FnOk P w K mg base CX0 1 f fd ["number"] (sp_is_prime).sp := by
  refine fs_ok Fn sc_is_prime (fun _ => rfl) (fun _ => rfl) fun cdv_ A_ outer_ s_ H_ E_ number C_ D_ hr hret hnx => ?_
  have hu65 := hu65_of hr; have hu64 := hu64_of hr; have hu1 := hu1_of hr
  refine gs_G (G' := [.dat TL.rI number, .any]) rfl ?_
  refine gs_if (t_not (t_lele x_int (x_var 0 rfl) (x_globI T.c_MOST_PRIME.choose_spec))) (fun h1 => ?_) (fun h1 => ?_)
  · have _ := h1
    exact gs_ret x_bl (hret _ _ ⟨congrArg (fun z => (Ent.dat TL.rB z : Ent)) (show false = m_is_prime number from Eq.symm ((ifp h1))), rfl, posted_any⟩)
  refine gs_nil ?_
  exact gs_ret (x_all T.b_all (rl_dat (x_lst (x_lc0 (s := TL.rB) (f := (fun (other : Int) => ((!decide ((number % other) = (0 : Int)))))) 1 (k_rng2 (n := (2 : Int)) (m := number) T.b_range (a_cons x_int (a_cons (x_var 0 rfl) a_nil)) (by first | omega | (show _ ≤ 16777216; omega) | (show _ < 16777216; omega) | (simp only [Bool.and_eq_true, Bool.not_eq_true', Bool.not_eq_false', Bool.or_eq_false_iff, Bool.and_eq_false_iff, decide_eq_true_eq, decide_eq_false_iff_not] at *; omega) | decide +kernel | (show (0 : Int) < (10 : Int) ^ ((9 : Int)).toNat ∧ (10 : Int) ^ ((9 : Int)).toNat < 1000000000000000000000; decide))) (noOwn_cons rfl rfl noOwn_nil) (fun C1 other hv _ _ _ _ _ => have hv' := mem_rng2 hv; (x_ne (x_mod (x_var 0 rfl) (x_var 1 rfl) (by first | omega | (show _ ≤ 16777216; omega) | (show _ < 16777216; omega) | (simp only [Bool.and_eq_true, Bool.not_eq_true', Bool.not_eq_false', Bool.or_eq_false_iff, Bool.and_eq_false_iff, decide_eq_true_eq, decide_eq_false_iff_not] at *; omega) | decide +kernel | (show (0 : Int) < (10 : Int) ^ ((9 : Int)).toNat ∧ (10 : Int) ^ ((9 : Int)).toNat < 1000000000000000000000; decide))) x_int)) sc_is_prime.nd (blkOk_by (N := n_is_prime) (sc := defScope s_is_prime) (by decide +kernel)) (fun _ _ _ _ _ => pg_name sc_is_prime.nd rfl (Or.inl rfl)))))) (hret _ _ ⟨congrArg (fun z => (Ent.dat TL.rB z : Ent)) (show (((List.map (fun (other : Int) => ((!decide ((number % other) = (0 : Int))))) (rng2 (2 : Int) number))).all id) = m_is_prime number from Eq.symm ((ifn h1))), rfl, posted_any⟩)
theorem ok_is_prime (T : Txs K mg) : Callee P w K mg base CX0 "is_prime" ["number"] (sp_is_prime).sp 1 := by
  obtain ⟨f, fd, Fn, hm, hb⟩ := T.d_is_prime.ex
  exact ⟨f, fd, fn_is_prime T Fn, hm, Fn.kp, hb⟩
end
end My

namespace My
open PySem PySem.Spec PyProof.Rows L2 TL
def m_must_be_prime (number : Int) : (Except Er Unit) :=
  (if (!(m_is_prime number)) = true then (Except.error Er.number) else (Except.ok ()))
theorem ers_must_be_prime {number : Int} : EI ERS (m_must_be_prime number) := by
  unfold m_must_be_prime
  repeat' (first | exact ei_ok | exact ei_er (by decide)  | apply ei_ite | refine ei_then ?_ fun _ => ?_ | refine ei_mapE fun _ => ?_)
abbrev sp_must_be_prime (mg : Str → Option Value) : FS (Int) := FS.ofE mg (fun x => [.dat TL.rI x]) (fun x => (m_must_be_prime x)) (fun v => .dat TL.rN v)
abbrev n_must_be_prime : List Str := ["number"]
theorem sc_must_be_prime : FnScope n_must_be_prime ["number"] (defScope s_must_be_prime) := ⟨rfl, rfl, rfl, by decide +kernel, rfl, by decide +kernel, by decide +kernel⟩
section
variable {P : Program} {w : World} {K : PySem.W.Frag} {mg : Str → Option Value} {base : Heap}
theorem fn_must_be_prime (T : Txs K mg) {f : Addr} {fd : FuncData} (Fn : Fun K "must_be_prime" "must_be_prime" s_must_be_prime f fd) : FnOk P w K mg base (L2.CX P w) 2 f fd ["number"] (sp_must_be_prime mg).sp := by
  refine fs_okX2 Fn sc_must_be_prime (fun _ => rfl) fun cdv_ A_ outer_ s_ H_ E_ number C_ D_ W_ hr tk0 hpo0 hret hnx hrz => ?_
  have hu65 := hu65_of hr; have hu64 := hu64_of hr; have hu1 := hu1_of hr
  refine gs_G (G' := [.dat TL.rI number]) rfl ?_
  refine gs_if (t_not (t_v (x_call (ok_is_prime T) (hr.mono (by decide)) (number) (a_cons (x_var 0 rfl) a_nil) (.cons .nil) rfl))) (fun h1 => ?_) (fun h1 => ?_)
  · have _ := h1
    exact gs_raise (nm := "NoNumber") T.e_number tk0 rfl (fun B H σ O => hrz _ (ofE_er (show m_must_be_prime number = .error .number from ((ifp h1)))) _ B H σ O.bare)
  refine gs_nil ?_
  exact gs_endN (hnx _ (endE (show m_must_be_prime number = .ok () from ((ifn h1)))))
theorem ok_must_be_prime (T : Txs K mg) : Callee P w K mg base (L2.CX P w) "must_be_prime" ["number"] (sp_must_be_prime mg).sp 2 := by
  obtain ⟨f, fd, Fn, hm, hb⟩ := T.d_must_be_prime.ex
  exact ⟨f, fd, fn_must_be_prime T Fn, hm, Fn.kp, hb⟩
end
end My

namespace My
open PySem PySem.Spec PyProof.Rows L2 TL
def m_rank_by (table : (List (List Int))) (prime : Int) : (Except Er Int) :=
  (thenE (m_must_be_table table) (fun v => (thenE (m_must_be_prime prime) (fun v' => (Except.ok (((List.map (fun (step : Int) => step) (List.filter (fun (step : Int) => ((!decide ((step % prime) = (0 : Int))))) (okv (m_steps_of table))))).length : Int))))))
theorem ers_rank_by {table : (List (List Int))} {prime : Int} : EI ERS (m_rank_by table prime) := by
  unfold m_rank_by
  repeat' (first | exact ei_ok | exact ei_er (by decide) | exact ers_must_be_prime| exact ers_must_be_table| exact ers_steps_of | apply ei_ite | refine ei_then ?_ fun _ => ?_ | refine ei_mapE fun _ => ?_)
theorem steps_ok {t : List (List Int)} (h : m_is_table t = true) : isOk (m_steps_of t) = true := by
  unfold m_steps_of m_stepped m_must_be_table
  rw [h]; rfl
theorem prime_pos {p : Int} {v : Unit} (h : m_must_be_prime p = .ok v) : 2 ≤ p ∧ p ≤ 100 := by
  unfold m_must_be_prime at h
  cases e : m_is_prime p with
  | false => rw [e] at h; cases h
  | true =>
    unfold m_is_prime at e
    split at e
    · cases e
    · rename_i c
      rw [Bool.not_eq_true, Bool.not_eq_false', Bool.and_eq_true, decide_eq_true_eq, decide_eq_true_eq] at c
      exact c
abbrev sp_rank_by (mg : Str → Option Value) : FS ({x : (List (List Int)) × Int // m_is_table x.1 = true → PapOk x.1.length (m_width x.1) x.1}) := FS.ofE mg (fun x => [.dat (rL (rL TL.rI)) x.1.1, .dat TL.rI x.1.2]) (fun x => (m_rank_by x.1.1 x.1.2)) (fun v => .dat TL.rI v)
abbrev n_rank_by : List Str := ["table", "prime", "step"]
theorem sc_rank_by : FnScope n_rank_by ["table", "prime"] (defScope s_rank_by) := ⟨rfl, rfl, rfl, by decide +kernel, rfl, by decide +kernel, by decide +kernel⟩
section
variable {P : Program} {w : World} {K : PySem.W.Frag} {mg : Str → Option Value} {base : Heap}
theorem fn_rank_by (T : Txs K mg) {f : Addr} {fd : FuncData} (Fn : Fun K "rank_by" "rank_by" s_rank_by f fd) : FnOk P w K mg base (L2.CX P w) 8 f fd ["table", "prime"] (sp_rank_by mg).sp := by
  refine fs_okX2 Fn sc_rank_by (fun _ => rfl) fun cdv_ A_ outer_ s_ H_ E_ x_ C_ D_ W_ hr tk0 hpo0 hret hnx hrz => ?_
  have hu65 := hu65_of hr; have hu64 := hu64_of hr; have hu1 := hu1_of hr
  obtain ⟨⟨table, prime⟩, hpre⟩ := x_
  refine gs_G (G' := [.dat (rL (rL TL.rI)) table, .dat TL.rI prime, .any]) rfl ?_
  refine gs_exprX (ok_must_be_table T) (hr.mono (by decide)) tk0 (table) (a_cons (x_var 0 rfl) a_nil) (.cons .nil) (fun v hm1 => ?_) (fun ev hm1 B H σ O => hrz _ (ofE_er (show m_rank_by table prime = .error ev from ((thenE_er hm1)))) _ B H σ O.bare)
  have hm1 : (m_must_be_table table) = .ok v := hm1
  refine gs_exprX (ok_must_be_prime T) (hr.mono (by decide)) tk0 (prime) (a_cons (x_var 1 rfl) a_nil) (.cons .nil) (fun v' hm2 => ?_) (fun ev hm2 B H σ O => hrz _ (ofE_er (show m_rank_by table prime = .error ev from ((thenE_ok hm1).trans ((thenE_er hm2))))) _ B H σ O.bare)
  have hm2 : (m_must_be_prime prime) = .ok v' := hm2
  exact gs_ret (x_len T.b_len (rl_dat (x_lst (x_lc1 (s := TL.rI) (f := (fun (step : Int) => step)) (q := fun (step : Int) => ((!decide ((step % prime) = (0 : Int))))) 2 (k_list (Ev.tldD fits_Ls (x_callX (ok_steps_of T) (hr.mono (by decide)) ⟨table, (by exact hpre)⟩ (a_cons (x_var 0 rfl) a_nil) (.cons .nil) (okX_res _ (okv_of (x := m_steps_of table) (by exact steps_ok (must_tb (t := table) (by assumption))))) (okX_bad _ (okv_of (x := m_steps_of table) (by exact steps_ok (must_tb (t := table) (by assumption)))))))) (noOwn_cons rfl rfl noOwn_nil) (fun C1 step hv _ _ _ _ _ => (t_ne (x_mod (x_var 2 rfl) (x_var 1 rfl) (by have h9 := prime_pos (by assumption); omega)) x_int)) (fun C1 step hv hq _ _ _ _ _ => (x_var 2 rfl)) sc_rank_by.nd (blkOk_by (N := n_rank_by) (sc := defScope s_rank_by) (by decide +kernel)) (fun _ _ _ _ _ => pg_name sc_rank_by.nd rfl (Or.inl rfl)))))) (hret _ _ (endE (show m_rank_by table prime = .ok (((List.map (fun (step : Int) => step) (List.filter (fun (step : Int) => ((!decide ((step % prime) = (0 : Int))))) (okv (m_steps_of table))))).length : Int) from ((thenE_ok hm1).trans ((thenE_ok hm2))))))
theorem ok_rank_by (T : Txs K mg) : Callee P w K mg base (L2.CX P w) "rank_by" ["table", "prime"] (sp_rank_by mg).sp 8 := by
  obtain ⟨f, fd, Fn, hm, hb⟩ := T.d_rank_by.ex
  exact ⟨f, fd, fn_rank_by T Fn, hm, Fn.kp, hb⟩
end
end My

namespace My
open PySem PySem.Spec PyProof.Rows L2 TL
def m__law_cell_at (script : (List Int)) (k : Int) : Int :=
  (if (decide (k < ((script).length : Int))) = true then (getA script k) else (0 : Int))
def sp__law_cell_at (K : PySem.W.Frag) : FS ({x : (List Int) × Int // 0 ≤ x.2}) := { args := fun x => [.dat (rScr K) x.1.1, .dat TL.rI x.1.2], res := fun x => .dat TL.rI (m__law_cell_at x.1.1 x.1.2) }
abbrev n__law_cell_at : List Str := ["script", "k"]
theorem sc__law_cell_at : FnScope n__law_cell_at ["script", "k"] (defScope s__law_cell_at) := ⟨rfl, rfl, rfl, by decide +kernel, rfl, by decide +kernel, by decide +kernel⟩
section
variable {P : Program} {w : World} {K : PySem.W.Frag} {mg : Str → Option Value} {base : Heap}
theorem fn__law_cell_at (T : Txs K mg) {f : Addr} {fd : FuncData} (Fn : Fun K "_law_cell_at" "_law_cell_at" s__law_cell_at f fd) : FnOk P w K mg base CX0 1 f fd ["script", "k"] (sp__law_cell_at K).sp := by
  refine fs_ok Fn sc__law_cell_at (fun _ => rfl) (fun _ => rfl) fun cdv_ A_ outer_ s_ H_ E_ x_ C_ D_ hr hret hnx => ?_
  have hu65 := hu65_of hr; have hu64 := hu64_of hr; have hu1 := hu1_of hr
  obtain ⟨⟨script, k⟩, hpre⟩ := x_
  refine gs_G (G' := [.dat (rScr K) script, .dat TL.rI k]) rfl ?_
  refine gs_if (t_lt (x_var 1 rfl) (x_lenScr T.b_len (x_var 0 rfl))) (fun h1 => ?_) (fun h1 => ?_)
  · have _ := h1
    exact gs_ret (x_ixScr (x_var 0 rfl) (x_var 1 rfl) (getA_at (by first | omega | (show _ ≤ 16777216; omega) | (show _ < 16777216; omega) | (simp only [Bool.and_eq_true, Bool.not_eq_true', Bool.not_eq_false', Bool.or_eq_false_iff, Bool.and_eq_false_iff, decide_eq_true_eq, decide_eq_false_iff_not] at *; omega) | decide +kernel | (show (0 : Int) < (10 : Int) ^ ((9 : Int)).toNat ∧ (10 : Int) ^ ((9 : Int)).toNat < 1000000000000000000000; decide)) (by first | omega | (show _ ≤ 16777216; omega) | (show _ < 16777216; omega) | (simp only [Bool.and_eq_true, Bool.not_eq_true', Bool.not_eq_false', Bool.or_eq_false_iff, Bool.and_eq_false_iff, decide_eq_true_eq, decide_eq_false_iff_not] at *; omega) | decide +kernel | (show (0 : Int) < (10 : Int) ^ ((9 : Int)).toNat ∧ (10 : Int) ^ ((9 : Int)).toNat < 1000000000000000000000; decide)))) (hret _ _ ⟨congrArg (fun z => (Ent.dat TL.rI z : Ent)) (show (getA script k) = m__law_cell_at script k from Eq.symm ((ifp h1))), rfl, posted_any⟩)
  refine gs_nil ?_
  exact gs_ret x_int (hret _ _ ⟨congrArg (fun z => (Ent.dat TL.rI z : Ent)) (show (0 : Int) = m__law_cell_at script k from Eq.symm ((ifn h1))), rfl, posted_any⟩)
theorem ok__law_cell_at (T : Txs K mg) : Callee P w K mg base CX0 "_law_cell_at" ["script", "k"] (sp__law_cell_at K).sp 1 := by
  obtain ⟨f, fd, Fn, hm, hb⟩ := T.d__law_cell_at.ex
  exact ⟨f, fd, fn__law_cell_at T Fn, hm, Fn.kp, hb⟩
end
end My

namespace My
open PySem PySem.Spec PyProof.Rows L2 TL
theorem box_ok1 {c : Int} (h : (decide ((10 : Int) ^ (18 : Int).toNat ≤ c)) = true) : ((0 : Int) = 0 ∧ 0 ≤ c - (10 : Int) ^ (18 : Int).toNat) ∨ ((0 : Int) = 1 ∧ 0 ≤ c - (10 : Int) ^ (18 : Int).toNat ∧ c - (10 : Int) ^ (18 : Int).toNat < 2147483648) :=
  .inl ⟨rfl, by have := of_decide_eq_true h; omega⟩
theorem box_ok2 (c : Int) : ((1 : Int) = 0 ∧ 0 ≤ (c % (10 : Int) ^ (18 : Int).toNat * 69621 + 7001) % 2147483629) ∨ ((1 : Int) = 1 ∧ 0 ≤ (c % (10 : Int) ^ (18 : Int).toNat * 69621 + 7001) % 2147483629 ∧ (c % (10 : Int) ^ (18 : Int).toNat * 69621 + 7001) % 2147483629 < 2147483648) :=
  .inr ⟨rfl, by omega, by omega⟩
def m__law_box (cell : Int) : Bx :=
  if h : (decide ((10 : Int) ^ (18 : Int).toNat ≤ cell)) = true then ⟨cell - (10 : Int) ^ (18 : Int).toNat, 0, box_ok1 h⟩ else ⟨(cell % (10 : Int) ^ (18 : Int).toNat * 69621 + 7001) % 2147483629, 1, box_ok2 cell⟩
def sp__law_box : FS Int := { args := fun x => [.dat TL.rI x], res := fun x => .own false TL.rI [(m__law_box x).a, (m__law_box x).f] }
theorem sc__law_box : FnScope ["cell"] ["cell"] (defScope s__law_box) := ⟨rfl, rfl, rfl, by decide +kernel, rfl, by decide +kernel, by decide +kernel⟩
section
variable {P : Program} {w : World} {K : PySem.W.Frag} {mg : Str → Option Value} {base : Heap}
theorem ok__law_box (T : Txs K mg) : Callee P w K mg base CX0 "_law_box" ["cell"] sp__law_box.sp 1 := by
  obtain ⟨f, fd, Fn, hm, hb⟩ := T.d__law_box.ex
  refine ⟨f, fd, fs_ok Fn sc__law_box (fun _ => rfl) (fun _ => rfl) fun cdv_ A_ outer_ s_ H_ E_ cell C_ D_ hr hret hnx => ?_, hm, Fn.kp, hb⟩
  refine gs_if (t_ge (x_var 0 rfl) (x_pow x_int x_int ⟨by decide, by decide, by decide⟩)) (fun h1 => ?_) (fun h1 => ?_)
  · exact gs_ret (x_list (a_cons (x_sub (x_var 0 rfl) (x_pow x_int x_int ⟨by decide, by decide, by decide⟩)) (a_cons x_int a_nil)) (.cons (.cons .nil))) (hret _ _ ⟨by
      show Ent.own false TL.rI _ = Ent.own false TL.rI [(m__law_box cell).a, (m__law_box cell).f]
      rw [m__law_box, dif_pos h1], rfl, posted_any⟩)
  refine gs_nil ?_
  exact gs_ret (x_list (a_cons (x_mod (x_add (x_mul (x_mod (x_var 0 rfl) (x_pow x_int x_int ⟨by decide, by decide, by decide⟩) (by decide)) x_int (.inr (by decide))) x_int) x_int (by decide)) (a_cons x_int a_nil)) (.cons (.cons .nil))) (hret _ _ ⟨by
      show Ent.own false TL.rI _ = Ent.own false TL.rI [(m__law_box cell).a, (m__law_box cell).f]
      rw [m__law_box, dif_neg (by rw [h1]; exact Bool.false_ne_true)], rfl, posted_any⟩)
end

end My

namespace My
open PySem PySem.Spec PyProof.Rows L2 TL
def take_mix (a : Int) : Int := (a * a + 39373 * a + 12345) % 2147483647
def take_next (a : Int) : Int := (take_mix a * take_mix a + 16807 * take_mix a + 7) % 2147483587
theorem take_next_ok (a : Int) : ((1 : Int) = 0 ∧ 0 ≤ take_next a) ∨ ((1 : Int) = 1 ∧ 0 ≤ take_next a ∧ take_next a < 2147483648) :=
  .inr ⟨rfl, by unfold take_next; omega, by unfold take_next; omega⟩
def m__law_take (b : Bx) (most : Int) : Int × Bx :=
  if h : decide (b.f = 0) = true then (b.a % most, if h2 : 0 < most then ⟨b.a / most, 0, .inl ⟨rfl, Int.ediv_nonneg (by have := b.ok; have := of_decide_eq_true h; omega) (Int.le_of_lt h2)⟩⟩ else b)
  else (take_next b.a / 7 % most, ⟨take_next b.a, 1, take_next_ok b.a⟩)
theorem take_lt {b : Bx} {most : Int} (h : 0 < most) : 0 ≤ (m__law_take b most).1 ∧ (m__law_take b most).1 < most := by
  unfold m__law_take
  split
  · exact ⟨Int.emod_nonneg _ (by omega), Int.emod_lt_of_pos _ h⟩
  · exact ⟨Int.emod_nonneg _ (by omega), Int.emod_lt_of_pos _ h⟩
theorem take_or (b : Bx) (most : Int) : most ≤ 0 ∨ (0 ≤ (m__law_take b most).1 ∧ (m__law_take b most).1 < most) := by
  by_cases h : 0 < most
  · exact .inr (take_lt h)
  · exact .inl (by omega)
theorem take_small {m : Int} (h1 : 0 < m) (h2 : m < 1000000000000000000000) : m.natAbs < 2 ^ 80 := by
  have h3 : m.natAbs < 1000000000000000000000 := by omega
  exact Nat.lt_trans h3 (by decide)
def sp__law_take : FS {x : Bx × Int // 0 < x.2 ∧ x.2 < 1000000000000000000000} := { args := fun x => [.own true TL.rI [(x.1.1).a, (x.1.1).f], .dat TL.rI x.1.2], res := fun x => .dat TL.rI (m__law_take x.1.1 x.1.2).1, post := fun x => .own true TL.rI [((m__law_take x.1.1 x.1.2).2).a, ((m__law_take x.1.1 x.1.2).2).f] }
theorem sc__law_take : FnScope ["box", "most", "found", "mixed"] ["box", "most"] (defScope s__law_take) := ⟨rfl, rfl, rfl, by decide +kernel, rfl, by decide +kernel, by decide +kernel⟩
section
variable {P : Program} {w : World} {K : PySem.W.Frag} {mg : Str → Option Value} {base : Heap}
theorem ok__law_take (T : Txs K mg) : Callee P w K mg base CX0 "_law_take" ["box", "most"] sp__law_take.sp 1 := by
  obtain ⟨f, fd, Fn, hm, hb⟩ := T.d__law_take.ex
  refine ⟨f, fd, fs_ok Fn sc__law_take (fun _ => rfl) (fun _ => rfl) fun cdv_ A_ outer_ s_ H_ E_ x_ C_ D_ hr hret hnx => ?_, hm, Fn.kp, hb⟩
  obtain ⟨⟨b, most⟩, hp1, hp2⟩ := x_
  have hp1' : 0 < most := hp1
  have hp2' : most < 1000000000000000000000 := hp2
  refine gs_G (G' := [.own true TL.rI [b.a, b.f], .dat TL.rI most, .any, .any]) rfl ?_
  refine gs_if (t_eq (x_ixL (rl_own 0 rfl) x_int (v := b.f) rfl) x_int) (fun h1 => ?_) (fun h1 => ?_)
  · have h1' : b.f = 0 := of_decide_eq_true h1
    refine gs_set (i := 2) sc__law_take.nd rfl (Or.inl rfl) (e := .dat TL.rI (b.a % most)) (x_mod (x_ixL (rl_own 0 rfl) x_int (v := b.a) rfl) (x_var 1 rfl) hp1') ?_
    refine gs_setL 0 (k := 0) (x_divW (x_ixL (rl_own 0 rfl) x_int (v := b.a) rfl) (x_var 1 rfl) (wide_div (b := 80) hp1' (take_small hp1' hp2') (by decide) (by decide))) x_int rfl rfl rfl ?_
    have e2 : (m__law_take b most) = (b.a % most, ⟨b.a / most, 0, .inl ⟨rfl, Int.ediv_nonneg (by have := b.ok; omega) (Int.le_of_lt hp1')⟩⟩) := by
      unfold m__law_take; rw [dif_pos h1, dif_pos hp1']
    refine gs_ret (x_var 2 rfl) (hret _ _ ⟨?_, rfl, posted_is (r := TL.rI) 0 rfl ?_⟩)
    · show Ent.dat TL.rI _ = Ent.dat TL.rI (m__law_take b most).1
      rw [e2]
    · show Ent.own true TL.rI [((m__law_take b most).2).a, ((m__law_take b most).2).f] = _
      rw [e2]
      show Ent.own true TL.rI [b.a / most, 0] = Ent.own true TL.rI [b.a / most, b.f]
      rw [h1']
  refine gs_nil ?_
  have h1' : ¬ b.f = 0 := of_decide_eq_false h1
  have hb1 : b.f = 1 ∧ 0 ≤ b.a ∧ b.a < 2147483648 := by have := b.ok; omega
  refine gs_set (i := 3) sc__law_take.nd rfl (Or.inl rfl) (e := .dat TL.rI (take_mix b.a)) (x_mod (x_add (x_add (x_mul (x_ixL (rl_own 0 rfl) x_int (v := b.a) rfl) (x_ixL (rl_own 0 rfl) x_int (v := b.a) rfl) (.inl ⟨by omega, by omega⟩)) (x_mul x_int (x_ixL (rl_own 0 rfl) x_int (v := b.a) rfl) (.inl (by decide)))) x_int) x_int (by decide)) ?_
  have hm1 : 0 ≤ take_mix b.a ∧ take_mix b.a < 2147483647 := by unfold take_mix; omega
  refine gs_setL 0 (k := 0) (v := take_next b.a) (x_mod (x_add (x_add (x_mul (x_var 3 rfl) (x_var 3 rfl) (.inl ⟨by omega, by omega⟩)) (x_mul x_int (x_var 3 rfl) (.inl (by decide)))) x_int) x_int (by decide)) x_int rfl rfl rfl ?_
  have e2 : (m__law_take b most) = (take_next b.a / 7 % most, ⟨take_next b.a, 1, take_next_ok b.a⟩) := by
    unfold m__law_take; rw [dif_neg (by rw [h1]; exact Bool.false_ne_true)]
  refine gs_ret (x_mod (x_div (x_ixL (rl_own 0 rfl) x_int (v := take_next b.a) rfl) x_int ⟨by decide, by decide⟩) (x_var 1 rfl) hp1') (hret _ _ ⟨?_, rfl, posted_is (r := TL.rI) 0 rfl ?_⟩)
  · show Ent.dat TL.rI _ = Ent.dat TL.rI (m__law_take b most).1
    rw [e2]
  · show Ent.own true TL.rI [((m__law_take b most).2).a, ((m__law_take b most).2).f] = _
    rw [e2]
    show Ent.own true TL.rI [take_next b.a, 1] = Ent.own true TL.rI [take_next b.a, b.f]
    rw [hb1.1]
end

end My

namespace My
open PySem PySem.Spec PyProof.Rows L2 TL
def m__law_row (box : Bx) (columns : Int) (wide : Int) : ((List Int) × Bx) :=
  ((mapS (fun (zb : Bx) (place : Int) => ((m__law_take zb wide).2, ((m__law_take zb wide).1 - (wide / (2 : Int))))) box (rng columns)).2, (mapS (fun (zb : Bx) (place : Int) => ((m__law_take zb wide).2, ((m__law_take zb wide).1 - (wide / (2 : Int))))) box (rng columns)).1)
def sp__law_row : FS ({x : Bx × Int × Int // 0 ≤ x.2.1 ∧ x.2.1 ≤ 64 ∧ 0 < x.2.2 ∧ x.2.2 < 1000}) := { args := fun x => [.own true TL.rI [(x.1.1).a, (x.1.1).f], .dat TL.rI x.1.2.1, .dat TL.rI x.1.2.2], res := fun x => .own false TL.rI (m__law_row x.1.1 x.1.2.1 x.1.2.2).1, post := fun x => .own true TL.rI [((m__law_row x.1.1 x.1.2.1 x.1.2.2).2).a, ((m__law_row x.1.1 x.1.2.1 x.1.2.2).2).f] }
abbrev n__law_row : List Str := ["box", "columns", "wide", "place"]
theorem sc__law_row : FnScope n__law_row ["box", "columns", "wide"] (defScope s__law_row) := ⟨rfl, rfl, rfl, by decide +kernel, rfl, by decide +kernel, by decide +kernel⟩
section
variable {P : Program} {w : World} {K : PySem.W.Frag} {mg : Str → Option Value} {base : Heap}
theorem fn__law_row (T : Txs K mg) {f : Addr} {fd : FuncData} (Fn : Fun K "_law_row" "_law_row" s__law_row f fd) : FnOk P w K mg base CX0 2 f fd ["box", "columns", "wide"] (sp__law_row).sp := by
  refine fs_ok Fn sc__law_row (fun _ => rfl) (fun _ => rfl) fun cdv_ A_ outer_ s_ H_ E_ x_ C_ D_ hr hret hnx => ?_
  have hu65 := hu65_of hr; have hu64 := hu64_of hr; have hu1 := hu1_of hr
  obtain ⟨⟨box, columns, wide⟩, hpre⟩ := x_
  refine gs_G (G' := [.own true TL.rI [(box).a, (box).f], .dat TL.rI columns, .dat TL.rI wide, .any]) rfl ?_
  have hq : 0 ≤ columns ∧ columns ≤ 64 ∧ 0 < wide ∧ wide < 1000 := hpre
  exact gs_ret (x_lcM (s := TL.rI) 3 (k_rng1 (n := columns) T.b_range (a_cons (x_var 1 rfl) a_nil) (by first | omega | (show _ ≤ 16777216; omega) | (show _ < 16777216; omega) | (simp only [Bool.and_eq_true, Bool.not_eq_true', Bool.not_eq_false', Bool.or_eq_false_iff, Bool.and_eq_false_iff, decide_eq_true_eq, decide_eq_false_iff_not] at *; omega) | decide +kernel | (show (0 : Int) < (10 : Int) ^ ((9 : Int)).toNat ∧ (10 : Int) ^ ((9 : Int)).toNat < 1000000000000000000000; decide))) (fun (zb : Bx) => [.own true TL.rI [(zb).a, (zb).f], .dat TL.rI columns, .dat TL.rI wide, .any]) box (fun (zb : Bx) (place : Int) => ((m__law_take zb wide).2, ((m__law_take zb wide).1 - (wide / (2 : Int))))) (.keep (.keep (.keep (.drop .nil)))) (fun _ => rfl) (fun _ => rfl) (noOwn_cons rfl rfl noOwn_nil) (fun C1 i_ place zb hi_ _ _ _ _ _ => have hv := List.mem_of_getElem? hi_; have hv' := mem_rng hv; have tk2 := take_or zb wide; (x_sub (x_callO (ok__law_take T) (hr.mono (by decide)) ⟨(zb, wide), (by first | omega | (show _ ≤ 16777216; omega) | (show _ < 16777216; omega) | (simp only [Bool.and_eq_true, Bool.not_eq_true', Bool.not_eq_false', Bool.or_eq_false_iff, Bool.and_eq_false_iff, decide_eq_true_eq, decide_eq_false_iff_not] at *; omega) | decide +kernel | (show (0 : Int) < (10 : Int) ^ ((9 : Int)).toNat ∧ (10 : Int) ^ ((9 : Int)).toNat < 1000000000000000000000; decide))⟩ (a_slot 0 rfl rfl (a_cons (x_var 2 rfl) a_nil)) rfl rfl rfl (.cons .nil) rfl) (x_div (x_var 2 rfl) x_int (by exact ⟨by omega, by omega⟩)))) sc__law_row.nd (blkOk_by (N := n__law_row) (sc := defScope s__law_row) (by decide +kernel)) (fun _ _ _ _ _ => pg_name sc__law_row.nd rfl (Or.inl rfl))) (hret _ _ ⟨rfl, rfl, posted_own (r := TL.rI) 0 rfl⟩)
theorem ok__law_row (T : Txs K mg) : Callee P w K mg base CX0 "_law_row" ["box", "columns", "wide"] (sp__law_row).sp 2 := by
  obtain ⟨f, fd, Fn, hm, hb⟩ := T.d__law_row.ex
  exact ⟨f, fd, fn__law_row T Fn, hm, Fn.kp, hb⟩
end
end My

namespace My
open PySem PySem.Spec PyProof.Rows L2 TL
def v__law_table_rows1 (box : Bx) (most : Int) : Int := (m__law_take box (most + (1 : Int))).1
def v__law_table_columns2 (box : Bx) (most : Int) : Int := (m__law_take (m__law_take box (most + (1 : Int))).2 (most + (1 : Int))).1
def v__law_table_wide3 (box : Bx) (most : Int) : Int := (getA [(3 : Int), (5 : Int), (13 : Int), (61 : Int)] (m__law_take (m__law_take (m__law_take box (most + (1 : Int))).2 (most + (1 : Int))).2 (4 : Int)).1)
def v__law_table_found4 (box : Bx) (most : Int) : (List (List Int)) := (mapS (fun (zb : Bx) (row : Int) => ((m__law_row zb (v__law_table_columns2 box most) (v__law_table_wide3 box most)).2, (m__law_row zb (v__law_table_columns2 box most) (v__law_table_wide3 box most)).1)) (m__law_take (m__law_take (m__law_take box (most + (1 : Int))).2 (most + (1 : Int))).2 (4 : Int)).2 (rng (v__law_table_rows1 box most))).2
def v__law_table_one5 (box : Bx) (most : Int) : Int := (m__law_take (if (decide ((1 : Int) < (v__law_table_rows1 box most))) = true then (m__law_take (mapS (fun (zb : Bx) (row : Int) => ((m__law_row zb (v__law_table_columns2 box most) (v__law_table_wide3 box most)).2, (m__law_row zb (v__law_table_columns2 box most) (v__law_table_wide3 box most)).1)) (m__law_take (m__law_take (m__law_take box (most + (1 : Int))).2 (most + (1 : Int))).2 (4 : Int)).2 (rng (v__law_table_rows1 box most))).1 (3 : Int)).2 else (mapS (fun (zb : Bx) (row : Int) => ((m__law_row zb (v__law_table_columns2 box most) (v__law_table_wide3 box most)).2, (m__law_row zb (v__law_table_columns2 box most) (v__law_table_wide3 box most)).1)) (m__law_take (m__law_take (m__law_take box (most + (1 : Int))).2 (most + (1 : Int))).2 (4 : Int)).2 (rng (v__law_table_rows1 box most))).1) (v__law_table_rows1 box most)).1
def v__law_table_other6 (box : Bx) (most : Int) : Int := (m__law_take (m__law_take (if (decide ((1 : Int) < (v__law_table_rows1 box most))) = true then (m__law_take (mapS (fun (zb : Bx) (row : Int) => ((m__law_row zb (v__law_table_columns2 box most) (v__law_table_wide3 box most)).2, (m__law_row zb (v__law_table_columns2 box most) (v__law_table_wide3 box most)).1)) (m__law_take (m__law_take (m__law_take box (most + (1 : Int))).2 (most + (1 : Int))).2 (4 : Int)).2 (rng (v__law_table_rows1 box most))).1 (3 : Int)).2 else (mapS (fun (zb : Bx) (row : Int) => ((m__law_row zb (v__law_table_columns2 box most) (v__law_table_wide3 box most)).2, (m__law_row zb (v__law_table_columns2 box most) (v__law_table_wide3 box most)).1)) (m__law_take (m__law_take (m__law_take box (most + (1 : Int))).2 (most + (1 : Int))).2 (4 : Int)).2 (rng (v__law_table_rows1 box most))).1) (v__law_table_rows1 box most)).2 (v__law_table_rows1 box most)).1
def v__law_table_often7 (box : Bx) (most : Int) : Int := ((m__law_take (m__law_take (m__law_take (if (decide ((1 : Int) < (v__law_table_rows1 box most))) = true then (m__law_take (mapS (fun (zb : Bx) (row : Int) => ((m__law_row zb (v__law_table_columns2 box most) (v__law_table_wide3 box most)).2, (m__law_row zb (v__law_table_columns2 box most) (v__law_table_wide3 box most)).1)) (m__law_take (m__law_take (m__law_take box (most + (1 : Int))).2 (most + (1 : Int))).2 (4 : Int)).2 (rng (v__law_table_rows1 box most))).1 (3 : Int)).2 else (mapS (fun (zb : Bx) (row : Int) => ((m__law_row zb (v__law_table_columns2 box most) (v__law_table_wide3 box most)).2, (m__law_row zb (v__law_table_columns2 box most) (v__law_table_wide3 box most)).1)) (m__law_take (m__law_take (m__law_take box (most + (1 : Int))).2 (most + (1 : Int))).2 (4 : Int)).2 (rng (v__law_table_rows1 box most))).1) (v__law_table_rows1 box most)).2 (v__law_table_rows1 box most)).2 (5 : Int)).1 - (2 : Int))
def v__law_table_j8 (box : Bx) (most : Int) : (Bx × (List (List Int))) := (if ((decide ((1 : Int) < (v__law_table_rows1 box most))) && (decide ((m__law_take (mapS (fun (zb : Bx) (row : Int) => ((m__law_row zb (v__law_table_columns2 box most) (v__law_table_wide3 box most)).2, (m__law_row zb (v__law_table_columns2 box most) (v__law_table_wide3 box most)).1)) (m__law_take (m__law_take (m__law_take box (most + (1 : Int))).2 (most + (1 : Int))).2 (4 : Int)).2 (rng (v__law_table_rows1 box most))).1 (3 : Int)).1 = (1 : Int)))) = true then ((m__law_take (m__law_take (m__law_take (if (decide ((1 : Int) < (v__law_table_rows1 box most))) = true then (m__law_take (mapS (fun (zb : Bx) (row : Int) => ((m__law_row zb (v__law_table_columns2 box most) (v__law_table_wide3 box most)).2, (m__law_row zb (v__law_table_columns2 box most) (v__law_table_wide3 box most)).1)) (m__law_take (m__law_take (m__law_take box (most + (1 : Int))).2 (most + (1 : Int))).2 (4 : Int)).2 (rng (v__law_table_rows1 box most))).1 (3 : Int)).2 else (mapS (fun (zb : Bx) (row : Int) => ((m__law_row zb (v__law_table_columns2 box most) (v__law_table_wide3 box most)).2, (m__law_row zb (v__law_table_columns2 box most) (v__law_table_wide3 box most)).1)) (m__law_take (m__law_take (m__law_take box (most + (1 : Int))).2 (most + (1 : Int))).2 (4 : Int)).2 (rng (v__law_table_rows1 box most))).1) (v__law_table_rows1 box most)).2 (v__law_table_rows1 box most)).2 (5 : Int)).2, (setA (v__law_table_found4 box most) (v__law_table_one5 box most) (List.map (fun (number : Int) => ((v__law_table_often7 box most) * number)) (getA (v__law_table_found4 box most) (v__law_table_other6 box most))))) else ((if (decide ((1 : Int) < (v__law_table_rows1 box most))) = true then (m__law_take (mapS (fun (zb : Bx) (row : Int) => ((m__law_row zb (v__law_table_columns2 box most) (v__law_table_wide3 box most)).2, (m__law_row zb (v__law_table_columns2 box most) (v__law_table_wide3 box most)).1)) (m__law_take (m__law_take (m__law_take box (most + (1 : Int))).2 (most + (1 : Int))).2 (4 : Int)).2 (rng (v__law_table_rows1 box most))).1 (3 : Int)).2 else (mapS (fun (zb : Bx) (row : Int) => ((m__law_row zb (v__law_table_columns2 box most) (v__law_table_wide3 box most)).2, (m__law_row zb (v__law_table_columns2 box most) (v__law_table_wide3 box most)).1)) (m__law_take (m__law_take (m__law_take box (most + (1 : Int))).2 (most + (1 : Int))).2 (4 : Int)).2 (rng (v__law_table_rows1 box most))).1), (v__law_table_found4 box most)))
def v__law_table_one9 (box : Bx) (most : Int) : Int := (m__law_take (if (decide ((0 : Int) < (v__law_table_rows1 box most))) = true then (m__law_take (v__law_table_j8 box most).1 (3 : Int)).2 else (v__law_table_j8 box most).1) (v__law_table_rows1 box most)).1
def v__law_table_often10 (box : Bx) (most : Int) : Int := ((1 : Int) + (m__law_take (m__law_take (if (decide ((0 : Int) < (v__law_table_rows1 box most))) = true then (m__law_take (v__law_table_j8 box most).1 (3 : Int)).2 else (v__law_table_j8 box most).1) (v__law_table_rows1 box most)).2 (6 : Int)).1)
def v__law_table_j11 (box : Bx) (most : Int) : (Bx × (List (List Int))) := (if ((decide ((0 : Int) < (v__law_table_rows1 box most))) && (decide ((m__law_take (v__law_table_j8 box most).1 (3 : Int)).1 = (1 : Int)))) = true then ((m__law_take (m__law_take (if (decide ((0 : Int) < (v__law_table_rows1 box most))) = true then (m__law_take (v__law_table_j8 box most).1 (3 : Int)).2 else (v__law_table_j8 box most).1) (v__law_table_rows1 box most)).2 (6 : Int)).2, (setA (v__law_table_j8 box most).2 (v__law_table_one9 box most) (List.map (fun (number : Int) => ((v__law_table_often10 box most) * number)) (getA (v__law_table_j8 box most).2 (v__law_table_one9 box most))))) else ((if (decide ((0 : Int) < (v__law_table_rows1 box most))) = true then (m__law_take (v__law_table_j8 box most).1 (3 : Int)).2 else (v__law_table_j8 box most).1), (v__law_table_j8 box most).2))
def m__law_table (box : Bx) (most : Int) : ((List (List Int)) × Bx) :=
  ((v__law_table_j11 box most).2, (v__law_table_j11 box most).1)
theorem wide_ok (box : Bx) (most : Int) : 0 < v__law_table_wide3 box most ∧ v__law_table_wide3 box most < 1000 := by
  unfold v__law_table_wide3
  have h := take_or (m__law_take (m__law_take box (most + (1 : Int))).2 (most + (1 : Int))).2 (4 : Int)
  have h2 : (m__law_take (m__law_take (m__law_take box (most + (1 : Int))).2 (most + (1 : Int))).2 (4 : Int)).1 ∈ rng 4 := by
    unfold rng
    exact List.mem_map.mpr ⟨(m__law_take (m__law_take (m__law_take box (most + (1 : Int))).2 (most + (1 : Int))).2 (4 : Int)).1.toNat, List.mem_range.mpr (by omega), by omega⟩
  have h3 : ((rng 4).all fun i => decide (0 < getA [(3 : Int), (5 : Int), (13 : Int), (61 : Int)] i) && decide (getA [(3 : Int), (5 : Int), (13 : Int), (61 : Int)] i < 1000)) = true := by decide
  have h4 := List.all_eq_true.mp h3 _ h2
  rw [Bool.and_eq_true] at h4
  exact ⟨of_decide_eq_true h4.1, of_decide_eq_true h4.2⟩
theorem mapS_length {S α β : Type} (f : S → α → S × β) : ∀ (l : List α) (z : S), (mapS f z l).2.length = l.length
  | [], _ => rfl
  | a :: l, z => congrArg (· + 1) (mapS_length f l _)
theorem found4_len (box : Bx) (most : Int) : (v__law_table_found4 box most).length = (v__law_table_rows1 box most).toNat := by
  unfold v__law_table_found4
  rw [mapS_length, rng_length]
theorem j8_len (box : Bx) (most : Int) : (v__law_table_j8 box most).2.length = (v__law_table_rows1 box most).toNat := by
  unfold v__law_table_j8
  split
  · show (setA _ _ _).length = _
    rw [setA_len, found4_len]
  · exact found4_len box most
def sp__law_table : FS ({x : Bx × Int // 0 ≤ x.2 ∧ x.2 ≤ 10}) := { args := fun x => [.own true TL.rI [(x.1.1).a, (x.1.1).f], .dat TL.rI x.1.2], res := fun x => .own false (rL TL.rI) (m__law_table x.1.1 x.1.2).1, post := fun x => .own true TL.rI [((m__law_table x.1.1 x.1.2).2).a, ((m__law_table x.1.1 x.1.2).2).f] }
abbrev n__law_table : List Str := ["box", "most", "rows", "columns", "wide", "found", "row", "one", "other", "often", "number"]
theorem sc__law_table : FnScope n__law_table ["box", "most"] (defScope s__law_table) := ⟨rfl, rfl, rfl, by decide +kernel, rfl, by decide +kernel, by decide +kernel⟩
section
variable {P : Program} {w : World} {K : PySem.W.Frag} {mg : Str → Option Value} {base : Heap}
theorem fn__law_table (T : Txs K mg) {f : Addr} {fd : FuncData} (Fn : Fun K "_law_table" "_law_table" s__law_table f fd) : FnOk P w K mg base CX0 3 f fd ["box", "most"] (sp__law_table).sp := by
  refine fs_ok Fn sc__law_table (fun _ => rfl) (fun _ => rfl) fun cdv_ A_ outer_ s_ H_ E_ x_ C_ D_ hr hret hnx => ?_
  have hu65 := hu65_of hr; have hu64 := hu64_of hr; have hu1 := hu1_of hr
  obtain ⟨⟨box, most⟩, hpre⟩ := x_
  refine gs_G (G' := [.own true TL.rI [(box).a, (box).f], .dat TL.rI most, .any, .any, .any, .any, .any, .any, .any, .any, .any]) rfl ?_
  have hq : 0 ≤ most ∧ most ≤ 10 := hpre
  have hj8 := j8_len box most
  have hf4 := found4_len box most
  have tk1 := take_or box (most + (1 : Int))
  refine gs_set (i := 2) sc__law_table.nd rfl (Or.inl rfl) (e := .dat TL.rI (v__law_table_rows1 box most)) (x_is (x_callO (ok__law_take T) (hr.mono (by decide)) ⟨(box, (most + (1 : Int))), (by first | omega | (show _ ≤ 16777216; omega) | (show _ < 16777216; omega) | (simp only [Bool.and_eq_true, Bool.not_eq_true', Bool.not_eq_false', Bool.or_eq_false_iff, Bool.and_eq_false_iff, decide_eq_true_eq, decide_eq_false_iff_not] at *; omega) | decide +kernel | (show (0 : Int) < (10 : Int) ^ ((9 : Int)).toNat ∧ (10 : Int) ^ ((9 : Int)).toNat < 1000000000000000000000; decide))⟩ (a_slot 0 rfl rfl (a_cons (x_add (x_var 1 rfl) x_int) a_nil)) rfl rfl rfl (.cons .nil) rfl) rfl) ?_
  have hro : 0 ≤ v__law_table_rows1 box most ∧ v__law_table_rows1 box most ≤ 10 := by unfold v__law_table_rows1; omega
  have tk2 := take_or (m__law_take box (most + (1 : Int))).2 (most + (1 : Int))
  refine gs_set (i := 3) sc__law_table.nd rfl (Or.inr rfl) (e := .dat TL.rI (v__law_table_columns2 box most)) (x_is (x_callO (ok__law_take T) (hr.mono (by decide)) ⟨((m__law_take box (most + (1 : Int))).2, (most + (1 : Int))), (by first | omega | (show _ ≤ 16777216; omega) | (show _ < 16777216; omega) | (simp only [Bool.and_eq_true, Bool.not_eq_true', Bool.not_eq_false', Bool.or_eq_false_iff, Bool.and_eq_false_iff, decide_eq_true_eq, decide_eq_false_iff_not] at *; omega) | decide +kernel | (show (0 : Int) < (10 : Int) ^ ((9 : Int)).toNat ∧ (10 : Int) ^ ((9 : Int)).toNat < 1000000000000000000000; decide))⟩ (a_slot 0 rfl rfl (a_cons (x_add (x_var 1 rfl) x_int) a_nil)) rfl rfl rfl (.cons .nil) rfl) rfl) ?_
  have hco : 0 ≤ v__law_table_columns2 box most ∧ v__law_table_columns2 box most ≤ 10 := by unfold v__law_table_columns2; omega
  have tk3 := take_or (m__law_take (m__law_take box (most + (1 : Int))).2 (most + (1 : Int))).2 (4 : Int)
  refine gs_set (i := 4) sc__law_table.nd rfl (Or.inr rfl) (e := .dat TL.rI (v__law_table_wide3 box most)) (x_is (x_ixD (x_lst (x_list (a_cons x_int (a_cons x_int (a_cons x_int (a_cons x_int a_nil)))) (.cons (.cons (.cons (.cons .nil)))))) (x_callO (ok__law_take T) (hr.mono (by decide)) ⟨((m__law_take (m__law_take box (most + (1 : Int))).2 (most + (1 : Int))).2, (4 : Int)), (by first | omega | (show _ ≤ 16777216; omega) | (show _ < 16777216; omega) | (simp only [Bool.and_eq_true, Bool.not_eq_true', Bool.not_eq_false', Bool.or_eq_false_iff, Bool.and_eq_false_iff, decide_eq_true_eq, decide_eq_false_iff_not] at *; omega) | decide +kernel | (show (0 : Int) < (10 : Int) ^ ((9 : Int)).toNat ∧ (10 : Int) ^ ((9 : Int)).toNat < 1000000000000000000000; decide))⟩ (a_slot 0 rfl rfl (a_cons x_int a_nil)) rfl rfl rfl (.cons .nil) rfl) (getA_at (l := [(3 : Int), (5 : Int), (13 : Int), (61 : Int)]) (i := (m__law_take (m__law_take (m__law_take box (most + (1 : Int))).2 (most + (1 : Int))).2 (4 : Int)).1) (by first | omega | (show 0 ≤ (m__law_take _ _).1; first | omega | (simp only [Bool.and_eq_true, Bool.not_eq_true', Bool.not_eq_false', Bool.or_eq_false_iff, Bool.and_eq_false_iff, decide_eq_true_eq, decide_eq_false_iff_not] at *; omega))) (by first | omega | (show _ < ((4 : Nat) : Int); omega) | (show (m__law_take _ _).1 < (_ : Int); first | omega | (simp only [Bool.and_eq_true, Bool.not_eq_true', Bool.not_eq_false', Bool.or_eq_false_iff, Bool.and_eq_false_iff, decide_eq_true_eq, decide_eq_false_iff_not] at *; omega))))) rfl) ?_
  have hwd := wide_ok box most
  refine gs_lcM (i := 5) (s := (rL TL.rI)) 6 (k_rng1 (n := (v__law_table_rows1 box most)) T.b_range (a_cons (x_var 2 rfl) a_nil) (by first | omega | (show _ ≤ 16777216; omega) | (show _ < 16777216; omega) | (simp only [Bool.and_eq_true, Bool.not_eq_true', Bool.not_eq_false', Bool.or_eq_false_iff, Bool.and_eq_false_iff, decide_eq_true_eq, decide_eq_false_iff_not] at *; omega) | decide +kernel | (show (0 : Int) < (10 : Int) ^ ((9 : Int)).toNat ∧ (10 : Int) ^ ((9 : Int)).toNat < 1000000000000000000000; decide))) (fun (zb : Bx) => [.own true TL.rI [(zb).a, (zb).f], .dat TL.rI most, .dat TL.rI (v__law_table_rows1 box most), .dat TL.rI (v__law_table_columns2 box most), .dat TL.rI (v__law_table_wide3 box most), .any, .any, .any, .any, .any, .any]) (m__law_take (m__law_take (m__law_take box (most + (1 : Int))).2 (most + (1 : Int))).2 (4 : Int)).2 (fun (zb : Bx) (row : Int) => ((m__law_row zb (v__law_table_columns2 box most) (v__law_table_wide3 box most)).2, (m__law_row zb (v__law_table_columns2 box most) (v__law_table_wide3 box most)).1)) (.keep (.keep (.keep (.keep (.keep (.drop (.drop (.drop (.drop (.drop (.drop .nil))))))))))) (fun _ => rfl) (fun _ => rfl) (noOwn_cons rfl rfl noOwn_nil) (fun C1 i_ row zb hi_ _ _ _ _ _ => have hv := List.mem_of_getElem? hi_; have hv' := mem_rng hv; (x_lst (x_isG [.own true TL.rI [((m__law_row zb (v__law_table_columns2 box most) (v__law_table_wide3 box most)).2).a, ((m__law_row zb (v__law_table_columns2 box most) (v__law_table_wide3 box most)).2).f], .dat TL.rI most, .dat TL.rI (v__law_table_rows1 box most), .dat TL.rI (v__law_table_columns2 box most), .dat TL.rI (v__law_table_wide3 box most), .any, .dat TL.rI row, .any, .any, .any, .any] (.own false TL.rI (m__law_row zb (v__law_table_columns2 box most) (v__law_table_wide3 box most)).1) (x_callOE (ok__law_row T) (hr.mono (by decide)) ⟨(zb, (v__law_table_columns2 box most), (v__law_table_wide3 box most)), (by first | omega | (show _ ≤ 16777216; omega) | (show _ < 16777216; omega) | (simp only [Bool.and_eq_true, Bool.not_eq_true', Bool.not_eq_false', Bool.or_eq_false_iff, Bool.and_eq_false_iff, decide_eq_true_eq, decide_eq_false_iff_not] at *; omega) | decide +kernel | (show (0 : Int) < (10 : Int) ^ ((9 : Int)).toNat ∧ (10 : Int) ^ ((9 : Int)).toNat < 1000000000000000000000; decide))⟩ (a_slot 0 rfl rfl (a_cons (x_var 3 rfl) (a_cons (x_var 4 rfl) a_nil))) rfl rfl rfl (.cons (.cons .nil)) rfl rfl) (by rfl) (by rfl)))) (en' := .own false (rL TL.rI) (v__law_table_found4 box most)) (fun h => Ev.ownIs h rfl) ?_ sc__law_table.nd (blkOk_by (N := n__law_table) (sc := defScope s__law_table) (by decide +kernel)) (fun _ _ _ _ _ => pg_name sc__law_table.nd rfl (Or.inl rfl)) rfl rfl (sw_true rfl rfl rfl (by decide +kernel))
  refine gs_G (G' := [.own true TL.rI [((mapS (fun (zb : Bx) (row : Int) => ((m__law_row zb (v__law_table_columns2 box most) (v__law_table_wide3 box most)).2, (m__law_row zb (v__law_table_columns2 box most) (v__law_table_wide3 box most)).1)) (m__law_take (m__law_take (m__law_take box (most + (1 : Int))).2 (most + (1 : Int))).2 (4 : Int)).2 (rng (v__law_table_rows1 box most))).1).a, ((mapS (fun (zb : Bx) (row : Int) => ((m__law_row zb (v__law_table_columns2 box most) (v__law_table_wide3 box most)).2, (m__law_row zb (v__law_table_columns2 box most) (v__law_table_wide3 box most)).1)) (m__law_take (m__law_take (m__law_take box (most + (1 : Int))).2 (most + (1 : Int))).2 (4 : Int)).2 (rng (v__law_table_rows1 box most))).1).f], .dat TL.rI most, .dat TL.rI (v__law_table_rows1 box most), .dat TL.rI (v__law_table_columns2 box most), .dat TL.rI (v__law_table_wide3 box most), .own false (rL TL.rI) (v__law_table_found4 box most), .any, .any, .any, .any, .any]) rfl ?_
  have tk4 := take_or (mapS (fun (zb : Bx) (row : Int) => ((m__law_row zb (v__law_table_columns2 box most) (v__law_table_wide3 box most)).2, (m__law_row zb (v__law_table_columns2 box most) (v__law_table_wide3 box most)).1)) (m__law_take (m__law_take (m__law_take box (most + (1 : Int))).2 (most + (1 : Int))).2 (4 : Int)).2 (rng (v__law_table_rows1 box most))).1 (3 : Int)
  refine gs_ifJ ((fun (z : (Bx × (List (List Int)))) => [.own true TL.rI [(z.1).a, (z.1).f], .dat TL.rI most, .dat TL.rI (v__law_table_rows1 box most), .dat TL.rI (v__law_table_columns2 box most), .dat TL.rI (v__law_table_wide3 box most), .own false (rL TL.rI) z.2, .any, .any, .any, .any, .any]) (v__law_table_j8 box most)) (t_andK (t_gt (x_var 2 rfl) x_int) (fun hb => (t_eq (x_callO (ok__law_take T) (hr.mono (by decide)) ⟨((mapS (fun (zb : Bx) (row : Int) => ((m__law_row zb (v__law_table_columns2 box most) (v__law_table_wide3 box most)).2, (m__law_row zb (v__law_table_columns2 box most) (v__law_table_wide3 box most)).1)) (m__law_take (m__law_take (m__law_take box (most + (1 : Int))).2 (most + (1 : Int))).2 (4 : Int)).2 (rng (v__law_table_rows1 box most))).1, (3 : Int)), (by first | omega | (show _ ≤ 16777216; omega) | (show _ < 16777216; omega) | (simp only [Bool.and_eq_true, Bool.not_eq_true', Bool.not_eq_false', Bool.or_eq_false_iff, Bool.and_eq_false_iff, decide_eq_true_eq, decide_eq_false_iff_not] at *; omega) | decide +kernel | (show (0 : Int) < (10 : Int) ^ ((9 : Int)).toNat ∧ (10 : Int) ^ ((9 : Int)).toNat < 1000000000000000000000; decide))⟩ (a_slot 0 rfl rfl (a_cons x_int a_nil)) rfl rfl rfl (.cons .nil) rfl) x_int)) (fun (z : Bx) => [.own true TL.rI [(z).a, (z).f], .dat TL.rI most, .dat TL.rI (v__law_table_rows1 box most), .dat TL.rI (v__law_table_columns2 box most), .dat TL.rI (v__law_table_wide3 box most), .own false (rL TL.rI) (v__law_table_found4 box most), .any, .any, .any, .any, .any]) (m__law_take (mapS (fun (zb : Bx) (row : Int) => ((m__law_row zb (v__law_table_columns2 box most) (v__law_table_wide3 box most)).2, (m__law_row zb (v__law_table_columns2 box most) (v__law_table_wide3 box most)).1)) (m__law_take (m__law_take (m__law_take box (most + (1 : Int))).2 (most + (1 : Int))).2 (4 : Int)).2 (rng (v__law_table_rows1 box most))).1 (3 : Int)).2 (mapS (fun (zb : Bx) (row : Int) => ((m__law_row zb (v__law_table_columns2 box most) (v__law_table_wide3 box most)).2, (m__law_row zb (v__law_table_columns2 box most) (v__law_table_wide3 box most)).1)) (m__law_take (m__law_take (m__law_take box (most + (1 : Int))).2 (most + (1 : Int))).2 (4 : Int)).2 (rng (v__law_table_rows1 box most))).1 (by rfl) (by rfl) (by rfl)) (fun h1 => ?_) (fun h1 => ?_) ?_
  · have tk5 := take_or (if (decide ((1 : Int) < (v__law_table_rows1 box most))) = true then (m__law_take (mapS (fun (zb : Bx) (row : Int) => ((m__law_row zb (v__law_table_columns2 box most) (v__law_table_wide3 box most)).2, (m__law_row zb (v__law_table_columns2 box most) (v__law_table_wide3 box most)).1)) (m__law_take (m__law_take (m__law_take box (most + (1 : Int))).2 (most + (1 : Int))).2 (4 : Int)).2 (rng (v__law_table_rows1 box most))).1 (3 : Int)).2 else (mapS (fun (zb : Bx) (row : Int) => ((m__law_row zb (v__law_table_columns2 box most) (v__law_table_wide3 box most)).2, (m__law_row zb (v__law_table_columns2 box most) (v__law_table_wide3 box most)).1)) (m__law_take (m__law_take (m__law_take box (most + (1 : Int))).2 (most + (1 : Int))).2 (4 : Int)).2 (rng (v__law_table_rows1 box most))).1) (v__law_table_rows1 box most)
    refine gs_set (i := 7) sc__law_table.nd rfl (Or.inl rfl) (e := .dat TL.rI (v__law_table_one5 box most)) (x_is (x_callO (ok__law_take T) (hr.mono (by decide)) ⟨((if (decide ((1 : Int) < (v__law_table_rows1 box most))) = true then (m__law_take (mapS (fun (zb : Bx) (row : Int) => ((m__law_row zb (v__law_table_columns2 box most) (v__law_table_wide3 box most)).2, (m__law_row zb (v__law_table_columns2 box most) (v__law_table_wide3 box most)).1)) (m__law_take (m__law_take (m__law_take box (most + (1 : Int))).2 (most + (1 : Int))).2 (4 : Int)).2 (rng (v__law_table_rows1 box most))).1 (3 : Int)).2 else (mapS (fun (zb : Bx) (row : Int) => ((m__law_row zb (v__law_table_columns2 box most) (v__law_table_wide3 box most)).2, (m__law_row zb (v__law_table_columns2 box most) (v__law_table_wide3 box most)).1)) (m__law_take (m__law_take (m__law_take box (most + (1 : Int))).2 (most + (1 : Int))).2 (4 : Int)).2 (rng (v__law_table_rows1 box most))).1), (v__law_table_rows1 box most)), (by first | omega | (show _ ≤ 16777216; omega) | (show _ < 16777216; omega) | (simp only [Bool.and_eq_true, Bool.not_eq_true', Bool.not_eq_false', Bool.or_eq_false_iff, Bool.and_eq_false_iff, decide_eq_true_eq, decide_eq_false_iff_not] at *; omega) | decide +kernel | (show (0 : Int) < (10 : Int) ^ ((9 : Int)).toNat ∧ (10 : Int) ^ ((9 : Int)).toNat < 1000000000000000000000; decide))⟩ (a_slot 0 rfl rfl (a_cons (x_var 2 rfl) a_nil)) rfl rfl rfl (.cons .nil) rfl) rfl) ?_
    have tk6 := take_or (m__law_take (if (decide ((1 : Int) < (v__law_table_rows1 box most))) = true then (m__law_take (mapS (fun (zb : Bx) (row : Int) => ((m__law_row zb (v__law_table_columns2 box most) (v__law_table_wide3 box most)).2, (m__law_row zb (v__law_table_columns2 box most) (v__law_table_wide3 box most)).1)) (m__law_take (m__law_take (m__law_take box (most + (1 : Int))).2 (most + (1 : Int))).2 (4 : Int)).2 (rng (v__law_table_rows1 box most))).1 (3 : Int)).2 else (mapS (fun (zb : Bx) (row : Int) => ((m__law_row zb (v__law_table_columns2 box most) (v__law_table_wide3 box most)).2, (m__law_row zb (v__law_table_columns2 box most) (v__law_table_wide3 box most)).1)) (m__law_take (m__law_take (m__law_take box (most + (1 : Int))).2 (most + (1 : Int))).2 (4 : Int)).2 (rng (v__law_table_rows1 box most))).1) (v__law_table_rows1 box most)).2 (v__law_table_rows1 box most)
    refine gs_set (i := 8) sc__law_table.nd rfl (Or.inl rfl) (e := .dat TL.rI (v__law_table_other6 box most)) (x_is (x_callO (ok__law_take T) (hr.mono (by decide)) ⟨((m__law_take (if (decide ((1 : Int) < (v__law_table_rows1 box most))) = true then (m__law_take (mapS (fun (zb : Bx) (row : Int) => ((m__law_row zb (v__law_table_columns2 box most) (v__law_table_wide3 box most)).2, (m__law_row zb (v__law_table_columns2 box most) (v__law_table_wide3 box most)).1)) (m__law_take (m__law_take (m__law_take box (most + (1 : Int))).2 (most + (1 : Int))).2 (4 : Int)).2 (rng (v__law_table_rows1 box most))).1 (3 : Int)).2 else (mapS (fun (zb : Bx) (row : Int) => ((m__law_row zb (v__law_table_columns2 box most) (v__law_table_wide3 box most)).2, (m__law_row zb (v__law_table_columns2 box most) (v__law_table_wide3 box most)).1)) (m__law_take (m__law_take (m__law_take box (most + (1 : Int))).2 (most + (1 : Int))).2 (4 : Int)).2 (rng (v__law_table_rows1 box most))).1) (v__law_table_rows1 box most)).2, (v__law_table_rows1 box most)), (by first | omega | (show _ ≤ 16777216; omega) | (show _ < 16777216; omega) | (simp only [Bool.and_eq_true, Bool.not_eq_true', Bool.not_eq_false', Bool.or_eq_false_iff, Bool.and_eq_false_iff, decide_eq_true_eq, decide_eq_false_iff_not] at *; omega) | decide +kernel | (show (0 : Int) < (10 : Int) ^ ((9 : Int)).toNat ∧ (10 : Int) ^ ((9 : Int)).toNat < 1000000000000000000000; decide))⟩ (a_slot 0 rfl rfl (a_cons (x_var 2 rfl) a_nil)) rfl rfl rfl (.cons .nil) rfl) rfl) ?_
    have tk7 := take_or (m__law_take (m__law_take (if (decide ((1 : Int) < (v__law_table_rows1 box most))) = true then (m__law_take (mapS (fun (zb : Bx) (row : Int) => ((m__law_row zb (v__law_table_columns2 box most) (v__law_table_wide3 box most)).2, (m__law_row zb (v__law_table_columns2 box most) (v__law_table_wide3 box most)).1)) (m__law_take (m__law_take (m__law_take box (most + (1 : Int))).2 (most + (1 : Int))).2 (4 : Int)).2 (rng (v__law_table_rows1 box most))).1 (3 : Int)).2 else (mapS (fun (zb : Bx) (row : Int) => ((m__law_row zb (v__law_table_columns2 box most) (v__law_table_wide3 box most)).2, (m__law_row zb (v__law_table_columns2 box most) (v__law_table_wide3 box most)).1)) (m__law_take (m__law_take (m__law_take box (most + (1 : Int))).2 (most + (1 : Int))).2 (4 : Int)).2 (rng (v__law_table_rows1 box most))).1) (v__law_table_rows1 box most)).2 (v__law_table_rows1 box most)).2 (5 : Int)
    refine gs_set (i := 9) sc__law_table.nd rfl (Or.inr rfl) (e := .dat TL.rI (v__law_table_often7 box most)) (x_is (x_sub (x_callO (ok__law_take T) (hr.mono (by decide)) ⟨((m__law_take (m__law_take (if (decide ((1 : Int) < (v__law_table_rows1 box most))) = true then (m__law_take (mapS (fun (zb : Bx) (row : Int) => ((m__law_row zb (v__law_table_columns2 box most) (v__law_table_wide3 box most)).2, (m__law_row zb (v__law_table_columns2 box most) (v__law_table_wide3 box most)).1)) (m__law_take (m__law_take (m__law_take box (most + (1 : Int))).2 (most + (1 : Int))).2 (4 : Int)).2 (rng (v__law_table_rows1 box most))).1 (3 : Int)).2 else (mapS (fun (zb : Bx) (row : Int) => ((m__law_row zb (v__law_table_columns2 box most) (v__law_table_wide3 box most)).2, (m__law_row zb (v__law_table_columns2 box most) (v__law_table_wide3 box most)).1)) (m__law_take (m__law_take (m__law_take box (most + (1 : Int))).2 (most + (1 : Int))).2 (4 : Int)).2 (rng (v__law_table_rows1 box most))).1) (v__law_table_rows1 box most)).2 (v__law_table_rows1 box most)).2, (5 : Int)), (by first | omega | (show _ ≤ 16777216; omega) | (show _ < 16777216; omega) | (simp only [Bool.and_eq_true, Bool.not_eq_true', Bool.not_eq_false', Bool.or_eq_false_iff, Bool.and_eq_false_iff, decide_eq_true_eq, decide_eq_false_iff_not] at *; omega) | decide +kernel | (show (0 : Int) < (10 : Int) ^ ((9 : Int)).toNat ∧ (10 : Int) ^ ((9 : Int)).toNat < 1000000000000000000000; decide))⟩ (a_slot 0 rfl rfl (a_cons x_int a_nil)) rfl rfl rfl (.cons .nil) rfl) x_int) rfl) ?_
    refine gs_G (G' := [.own true TL.rI [((m__law_take (m__law_take (m__law_take (if (decide ((1 : Int) < (v__law_table_rows1 box most))) = true then (m__law_take (mapS (fun (zb : Bx) (row : Int) => ((m__law_row zb (v__law_table_columns2 box most) (v__law_table_wide3 box most)).2, (m__law_row zb (v__law_table_columns2 box most) (v__law_table_wide3 box most)).1)) (m__law_take (m__law_take (m__law_take box (most + (1 : Int))).2 (most + (1 : Int))).2 (4 : Int)).2 (rng (v__law_table_rows1 box most))).1 (3 : Int)).2 else (mapS (fun (zb : Bx) (row : Int) => ((m__law_row zb (v__law_table_columns2 box most) (v__law_table_wide3 box most)).2, (m__law_row zb (v__law_table_columns2 box most) (v__law_table_wide3 box most)).1)) (m__law_take (m__law_take (m__law_take box (most + (1 : Int))).2 (most + (1 : Int))).2 (4 : Int)).2 (rng (v__law_table_rows1 box most))).1) (v__law_table_rows1 box most)).2 (v__law_table_rows1 box most)).2 (5 : Int)).2).a, ((m__law_take (m__law_take (m__law_take (if (decide ((1 : Int) < (v__law_table_rows1 box most))) = true then (m__law_take (mapS (fun (zb : Bx) (row : Int) => ((m__law_row zb (v__law_table_columns2 box most) (v__law_table_wide3 box most)).2, (m__law_row zb (v__law_table_columns2 box most) (v__law_table_wide3 box most)).1)) (m__law_take (m__law_take (m__law_take box (most + (1 : Int))).2 (most + (1 : Int))).2 (4 : Int)).2 (rng (v__law_table_rows1 box most))).1 (3 : Int)).2 else (mapS (fun (zb : Bx) (row : Int) => ((m__law_row zb (v__law_table_columns2 box most) (v__law_table_wide3 box most)).2, (m__law_row zb (v__law_table_columns2 box most) (v__law_table_wide3 box most)).1)) (m__law_take (m__law_take (m__law_take box (most + (1 : Int))).2 (most + (1 : Int))).2 (4 : Int)).2 (rng (v__law_table_rows1 box most))).1) (v__law_table_rows1 box most)).2 (v__law_table_rows1 box most)).2 (5 : Int)).2).f], .dat TL.rI most, .dat TL.rI (v__law_table_rows1 box most), .dat TL.rI (v__law_table_columns2 box most), .dat TL.rI (v__law_table_wide3 box most), .own false (rL TL.rI) (v__law_table_found4 box most), .any, .dat TL.rI (v__law_table_one5 box most), .dat TL.rI (v__law_table_other6 box most), .dat TL.rI (v__law_table_often7 box most), .any]) rfl ?_
    refine gs_setAt 5 (x_lst (x_lc0 (s := TL.rI) (f := (fun (number : Int) => ((v__law_table_often7 box most) * number))) 10 (k_list (x_ixL (rl_own 5 rfl) (x_var 8 rfl) (getA_at (l := (v__law_table_found4 box most)) (i := (v__law_table_other6 box most)) (by first | omega | (show 0 ≤ (m__law_take _ _).1; first | omega | (simp only [Bool.and_eq_true, Bool.not_eq_true', Bool.not_eq_false', Bool.or_eq_false_iff, Bool.and_eq_false_iff, decide_eq_true_eq, decide_eq_false_iff_not] at *; omega))) (by first | omega | (show _ < ((4 : Nat) : Int); omega) | (show (m__law_take _ _).1 < (_ : Int); first | omega | (simp only [Bool.and_eq_true, Bool.not_eq_true', Bool.not_eq_false', Bool.or_eq_false_iff, Bool.and_eq_false_iff, decide_eq_true_eq, decide_eq_false_iff_not] at *; omega)))))) (noOwn_cons rfl rfl noOwn_nil) (fun C1 number hv _ _ _ _ _ => (x_mul (x_var 9 rfl) (x_var 10 rfl) (by first | exact .inl ⟨by unfold v__law_table_often7; omega, by unfold v__law_table_often7; omega⟩ | exact .inl ⟨by unfold v__law_table_often10; omega, by unfold v__law_table_often10; omega⟩))) sc__law_table.nd (blkOk_by (N := n__law_table) (sc := defScope s__law_table) (by decide +kernel)) (fun _ _ _ _ _ => pg_name sc__law_table.nd rfl (Or.inl rfl)))) (x_var 7 rfl) rfl rfl (by first | omega | (show 0 ≤ (m__law_take _ _).1; first | omega | (simp only [Bool.and_eq_true, Bool.not_eq_true', Bool.not_eq_false', Bool.or_eq_false_iff, Bool.and_eq_false_iff, decide_eq_true_eq, decide_eq_false_iff_not] at *; omega))) (by first | omega | (show _ < ((4 : Nat) : Int); omega) | (show (m__law_take _ _).1 < (_ : Int); first | omega | (simp only [Bool.and_eq_true, Bool.not_eq_true', Bool.not_eq_false', Bool.or_eq_false_iff, Bool.and_eq_false_iff, decide_eq_true_eq, decide_eq_false_iff_not] at *; omega))) ?_
    refine gs_G (G' := [.own true TL.rI [((m__law_take (m__law_take (m__law_take (if (decide ((1 : Int) < (v__law_table_rows1 box most))) = true then (m__law_take (mapS (fun (zb : Bx) (row : Int) => ((m__law_row zb (v__law_table_columns2 box most) (v__law_table_wide3 box most)).2, (m__law_row zb (v__law_table_columns2 box most) (v__law_table_wide3 box most)).1)) (m__law_take (m__law_take (m__law_take box (most + (1 : Int))).2 (most + (1 : Int))).2 (4 : Int)).2 (rng (v__law_table_rows1 box most))).1 (3 : Int)).2 else (mapS (fun (zb : Bx) (row : Int) => ((m__law_row zb (v__law_table_columns2 box most) (v__law_table_wide3 box most)).2, (m__law_row zb (v__law_table_columns2 box most) (v__law_table_wide3 box most)).1)) (m__law_take (m__law_take (m__law_take box (most + (1 : Int))).2 (most + (1 : Int))).2 (4 : Int)).2 (rng (v__law_table_rows1 box most))).1) (v__law_table_rows1 box most)).2 (v__law_table_rows1 box most)).2 (5 : Int)).2).a, ((m__law_take (m__law_take (m__law_take (if (decide ((1 : Int) < (v__law_table_rows1 box most))) = true then (m__law_take (mapS (fun (zb : Bx) (row : Int) => ((m__law_row zb (v__law_table_columns2 box most) (v__law_table_wide3 box most)).2, (m__law_row zb (v__law_table_columns2 box most) (v__law_table_wide3 box most)).1)) (m__law_take (m__law_take (m__law_take box (most + (1 : Int))).2 (most + (1 : Int))).2 (4 : Int)).2 (rng (v__law_table_rows1 box most))).1 (3 : Int)).2 else (mapS (fun (zb : Bx) (row : Int) => ((m__law_row zb (v__law_table_columns2 box most) (v__law_table_wide3 box most)).2, (m__law_row zb (v__law_table_columns2 box most) (v__law_table_wide3 box most)).1)) (m__law_take (m__law_take (m__law_take box (most + (1 : Int))).2 (most + (1 : Int))).2 (4 : Int)).2 (rng (v__law_table_rows1 box most))).1) (v__law_table_rows1 box most)).2 (v__law_table_rows1 box most)).2 (5 : Int)).2).f], .dat TL.rI most, .dat TL.rI (v__law_table_rows1 box most), .dat TL.rI (v__law_table_columns2 box most), .dat TL.rI (v__law_table_wide3 box most), .own false (rL TL.rI) (setA (v__law_table_found4 box most) (v__law_table_one5 box most) (List.map (fun (number : Int) => ((v__law_table_often7 box most) * number)) (getA (v__law_table_found4 box most) (v__law_table_other6 box most)))), .any, .dat TL.rI (v__law_table_one5 box most), .dat TL.rI (v__law_table_other6 box most), .dat TL.rI (v__law_table_often7 box most), .any]) rfl ?_
    exact gs_endJ (Gs := fun (z : (Bx × (List (List Int)))) => [.own true TL.rI [(z.1).a, (z.1).f], .dat TL.rI most, .dat TL.rI (v__law_table_rows1 box most), .dat TL.rI (v__law_table_columns2 box most), .dat TL.rI (v__law_table_wide3 box most), .own false (rL TL.rI) z.2, .any, .any, .any, .any, .any]) (ifp h1) (.keep (.keep (.keep (.keep (.keep (.keep (.drop (.drop (.drop (.drop (.drop .nil)))))))))))
  · exact gs_endJ (Gs := fun (z : (Bx × (List (List Int)))) => [.own true TL.rI [(z.1).a, (z.1).f], .dat TL.rI most, .dat TL.rI (v__law_table_rows1 box most), .dat TL.rI (v__law_table_columns2 box most), .dat TL.rI (v__law_table_wide3 box most), .own false (rL TL.rI) z.2, .any, .any, .any, .any, .any]) (ifn h1) (.keep (.keep (.keep (.keep (.keep (.keep (.drop (.drop (.drop (.drop (.drop .nil)))))))))))
  refine gs_G (G' := [.own true TL.rI [((v__law_table_j8 box most).1).a, ((v__law_table_j8 box most).1).f], .dat TL.rI most, .dat TL.rI (v__law_table_rows1 box most), .dat TL.rI (v__law_table_columns2 box most), .dat TL.rI (v__law_table_wide3 box most), .own false (rL TL.rI) (v__law_table_j8 box most).2, .any, .any, .any, .any, .any]) rfl ?_
  have tk8 := take_or (v__law_table_j8 box most).1 (3 : Int)
  refine gs_ifJ ((fun (z : (Bx × (List (List Int)))) => [.own true TL.rI [(z.1).a, (z.1).f], .dat TL.rI most, .dat TL.rI (v__law_table_rows1 box most), .dat TL.rI (v__law_table_columns2 box most), .dat TL.rI (v__law_table_wide3 box most), .own false (rL TL.rI) z.2, .any, .any, .any, .any, .any]) (v__law_table_j11 box most)) (t_andK (t_gt (x_var 2 rfl) x_int) (fun hb => (t_eq (x_callO (ok__law_take T) (hr.mono (by decide)) ⟨((v__law_table_j8 box most).1, (3 : Int)), (by first | omega | (show _ ≤ 16777216; omega) | (show _ < 16777216; omega) | (simp only [Bool.and_eq_true, Bool.not_eq_true', Bool.not_eq_false', Bool.or_eq_false_iff, Bool.and_eq_false_iff, decide_eq_true_eq, decide_eq_false_iff_not] at *; omega) | decide +kernel | (show (0 : Int) < (10 : Int) ^ ((9 : Int)).toNat ∧ (10 : Int) ^ ((9 : Int)).toNat < 1000000000000000000000; decide))⟩ (a_slot 0 rfl rfl (a_cons x_int a_nil)) rfl rfl rfl (.cons .nil) rfl) x_int)) (fun (z : Bx) => [.own true TL.rI [(z).a, (z).f], .dat TL.rI most, .dat TL.rI (v__law_table_rows1 box most), .dat TL.rI (v__law_table_columns2 box most), .dat TL.rI (v__law_table_wide3 box most), .own false (rL TL.rI) (v__law_table_j8 box most).2, .any, .any, .any, .any, .any]) (m__law_take (v__law_table_j8 box most).1 (3 : Int)).2 (v__law_table_j8 box most).1 (by rfl) (by rfl) (by rfl)) (fun h2 => ?_) (fun h2 => ?_) ?_
  · have tk9 := take_or (if (decide ((0 : Int) < (v__law_table_rows1 box most))) = true then (m__law_take (v__law_table_j8 box most).1 (3 : Int)).2 else (v__law_table_j8 box most).1) (v__law_table_rows1 box most)
    refine gs_set (i := 7) sc__law_table.nd rfl (Or.inl rfl) (e := .dat TL.rI (v__law_table_one9 box most)) (x_is (x_callO (ok__law_take T) (hr.mono (by decide)) ⟨((if (decide ((0 : Int) < (v__law_table_rows1 box most))) = true then (m__law_take (v__law_table_j8 box most).1 (3 : Int)).2 else (v__law_table_j8 box most).1), (v__law_table_rows1 box most)), (by first | omega | (show _ ≤ 16777216; omega) | (show _ < 16777216; omega) | (simp only [Bool.and_eq_true, Bool.not_eq_true', Bool.not_eq_false', Bool.or_eq_false_iff, Bool.and_eq_false_iff, decide_eq_true_eq, decide_eq_false_iff_not] at *; omega) | decide +kernel | (show (0 : Int) < (10 : Int) ^ ((9 : Int)).toNat ∧ (10 : Int) ^ ((9 : Int)).toNat < 1000000000000000000000; decide))⟩ (a_slot 0 rfl rfl (a_cons (x_var 2 rfl) a_nil)) rfl rfl rfl (.cons .nil) rfl) rfl) ?_
    have tk10 := take_or (m__law_take (if (decide ((0 : Int) < (v__law_table_rows1 box most))) = true then (m__law_take (v__law_table_j8 box most).1 (3 : Int)).2 else (v__law_table_j8 box most).1) (v__law_table_rows1 box most)).2 (6 : Int)
    refine gs_set (i := 9) sc__law_table.nd rfl (Or.inr rfl) (e := .dat TL.rI (v__law_table_often10 box most)) (x_is (x_add x_int (x_callO (ok__law_take T) (hr.mono (by decide)) ⟨((m__law_take (if (decide ((0 : Int) < (v__law_table_rows1 box most))) = true then (m__law_take (v__law_table_j8 box most).1 (3 : Int)).2 else (v__law_table_j8 box most).1) (v__law_table_rows1 box most)).2, (6 : Int)), (by first | omega | (show _ ≤ 16777216; omega) | (show _ < 16777216; omega) | (simp only [Bool.and_eq_true, Bool.not_eq_true', Bool.not_eq_false', Bool.or_eq_false_iff, Bool.and_eq_false_iff, decide_eq_true_eq, decide_eq_false_iff_not] at *; omega) | decide +kernel | (show (0 : Int) < (10 : Int) ^ ((9 : Int)).toNat ∧ (10 : Int) ^ ((9 : Int)).toNat < 1000000000000000000000; decide))⟩ (a_slot 0 rfl rfl (a_cons x_int a_nil)) rfl rfl rfl (.cons .nil) rfl)) rfl) ?_
    refine gs_setAt 5 (x_lst (x_lc0 (s := TL.rI) (f := (fun (number : Int) => ((v__law_table_often10 box most) * number))) 10 (k_list (x_ixL (rl_own 5 rfl) (x_var 7 rfl) (getA_at (l := (v__law_table_j8 box most).2) (i := (v__law_table_one9 box most)) (by first | omega | (show 0 ≤ (m__law_take _ _).1; first | omega | (simp only [Bool.and_eq_true, Bool.not_eq_true', Bool.not_eq_false', Bool.or_eq_false_iff, Bool.and_eq_false_iff, decide_eq_true_eq, decide_eq_false_iff_not] at *; omega))) (by first | omega | (show _ < ((4 : Nat) : Int); omega) | (show (m__law_take _ _).1 < (_ : Int); first | omega | (simp only [Bool.and_eq_true, Bool.not_eq_true', Bool.not_eq_false', Bool.or_eq_false_iff, Bool.and_eq_false_iff, decide_eq_true_eq, decide_eq_false_iff_not] at *; omega)))))) (noOwn_cons rfl rfl noOwn_nil) (fun C1 number hv _ _ _ _ _ => (x_mul (x_var 9 rfl) (x_var 10 rfl) (by first | exact .inl ⟨by unfold v__law_table_often7; omega, by unfold v__law_table_often7; omega⟩ | exact .inl ⟨by unfold v__law_table_often10; omega, by unfold v__law_table_often10; omega⟩))) sc__law_table.nd (blkOk_by (N := n__law_table) (sc := defScope s__law_table) (by decide +kernel)) (fun _ _ _ _ _ => pg_name sc__law_table.nd rfl (Or.inl rfl)))) (x_var 7 rfl) rfl rfl (by first | omega | (show 0 ≤ (m__law_take _ _).1; first | omega | (simp only [Bool.and_eq_true, Bool.not_eq_true', Bool.not_eq_false', Bool.or_eq_false_iff, Bool.and_eq_false_iff, decide_eq_true_eq, decide_eq_false_iff_not] at *; omega))) (by first | omega | (show _ < ((4 : Nat) : Int); omega) | (show (m__law_take _ _).1 < (_ : Int); first | omega | (simp only [Bool.and_eq_true, Bool.not_eq_true', Bool.not_eq_false', Bool.or_eq_false_iff, Bool.and_eq_false_iff, decide_eq_true_eq, decide_eq_false_iff_not] at *; omega))) ?_
    refine gs_G (G' := [.own true TL.rI [((m__law_take (m__law_take (if (decide ((0 : Int) < (v__law_table_rows1 box most))) = true then (m__law_take (v__law_table_j8 box most).1 (3 : Int)).2 else (v__law_table_j8 box most).1) (v__law_table_rows1 box most)).2 (6 : Int)).2).a, ((m__law_take (m__law_take (if (decide ((0 : Int) < (v__law_table_rows1 box most))) = true then (m__law_take (v__law_table_j8 box most).1 (3 : Int)).2 else (v__law_table_j8 box most).1) (v__law_table_rows1 box most)).2 (6 : Int)).2).f], .dat TL.rI most, .dat TL.rI (v__law_table_rows1 box most), .dat TL.rI (v__law_table_columns2 box most), .dat TL.rI (v__law_table_wide3 box most), .own false (rL TL.rI) (setA (v__law_table_j8 box most).2 (v__law_table_one9 box most) (List.map (fun (number : Int) => ((v__law_table_often10 box most) * number)) (getA (v__law_table_j8 box most).2 (v__law_table_one9 box most)))), .any, .dat TL.rI (v__law_table_one9 box most), .any, .dat TL.rI (v__law_table_often10 box most), .any]) rfl ?_
    exact gs_endJ (Gs := fun (z : (Bx × (List (List Int)))) => [.own true TL.rI [(z.1).a, (z.1).f], .dat TL.rI most, .dat TL.rI (v__law_table_rows1 box most), .dat TL.rI (v__law_table_columns2 box most), .dat TL.rI (v__law_table_wide3 box most), .own false (rL TL.rI) z.2, .any, .any, .any, .any, .any]) (ifp h2) (.keep (.keep (.keep (.keep (.keep (.keep (.drop (.drop (.drop (.drop (.drop .nil)))))))))))
  · exact gs_endJ (Gs := fun (z : (Bx × (List (List Int)))) => [.own true TL.rI [(z.1).a, (z.1).f], .dat TL.rI most, .dat TL.rI (v__law_table_rows1 box most), .dat TL.rI (v__law_table_columns2 box most), .dat TL.rI (v__law_table_wide3 box most), .own false (rL TL.rI) z.2, .any, .any, .any, .any, .any]) (ifn h2) (.keep (.keep (.keep (.keep (.keep (.keep (.drop (.drop (.drop (.drop (.drop .nil)))))))))))
  refine gs_G (G' := [.own true TL.rI [((v__law_table_j11 box most).1).a, ((v__law_table_j11 box most).1).f], .dat TL.rI most, .dat TL.rI (v__law_table_rows1 box most), .dat TL.rI (v__law_table_columns2 box most), .dat TL.rI (v__law_table_wide3 box most), .own false (rL TL.rI) (v__law_table_j11 box most).2, .any, .any, .any, .any, .any]) rfl ?_
  exact gs_ret (x_own 5 rfl) (hret _ _ ⟨rfl, rfl, posted_own (r := TL.rI) 0 rfl⟩)
theorem ok__law_table (T : Txs K mg) : Callee P w K mg base CX0 "_law_table" ["box", "most"] (sp__law_table).sp 3 := by
  obtain ⟨f, fd, Fn, hm, hb⟩ := T.d__law_table.ex
  exact ⟨f, fd, fn__law_table T Fn, hm, Fn.kp, hb⟩
end
end My

namespace My
open PySem PySem.Spec PyProof.Rows L2 TL
def m__law_wide (table : (List (List Int))) : Int :=
  (if (!eqB table ([] : (List (List Int)))) = true then (((getA table (0 : Int))).length : Int) else (0 : Int))
theorem ne_len {α : Type} [DecidableEq α] {t : List α} (h : (!eqB t []) = true) : 0 < t.length := by
  cases t with
  | nil => exact absurd h (by simp [eqB])
  | cons a t => exact Nat.succ_pos _
def sp__law_wide : FS ((List (List Int))) := { args := fun x => [.dat (rL (rL TL.rI)) x], res := fun x => .dat TL.rI (m__law_wide x) }
abbrev n__law_wide : List Str := ["table"]
theorem sc__law_wide : FnScope n__law_wide ["table"] (defScope s__law_wide) := ⟨rfl, rfl, rfl, by decide +kernel, rfl, by decide +kernel, by decide +kernel⟩
section
variable {P : Program} {w : World} {K : PySem.W.Frag} {mg : Str → Option Value} {base : Heap}
theorem fn__law_wide (T : Txs K mg) {f : Addr} {fd : FuncData} (Fn : Fun K "_law_wide" "_law_wide" s__law_wide f fd) : FnOk P w K mg base CX0 1 f fd ["table"] (sp__law_wide).sp := by
  refine fs_ok Fn sc__law_wide (fun _ => rfl) (fun _ => rfl) fun cdv_ A_ outer_ s_ H_ E_ table C_ D_ hr hret hnx => ?_
  have hu65 := hu65_of hr; have hu64 := hu64_of hr; have hu1 := hu1_of hr
  refine gs_G (G' := [.dat (rL (rL TL.rI)) table]) rfl ?_
  exact gs_ret (x_ife (t_neD hu64 (x_var 0 rfl) (x_lst (x_list (r := (rL TL.rI)) a_nil .nil))) (fun hc => (x_len T.b_len (rl_dat (x_ixL (rl_dat (x_var 0 rfl)) x_int (getA_at (l := table) (i := (0 : Int)) (by first | omega | (show _ ≤ 16777216; omega) | (show _ < 16777216; omega) | (simp only [Bool.and_eq_true, Bool.not_eq_true', Bool.not_eq_false', Bool.or_eq_false_iff, Bool.and_eq_false_iff, decide_eq_true_eq, decide_eq_false_iff_not] at *; omega) | decide +kernel | (show (0 : Int) < (10 : Int) ^ ((9 : Int)).toNat ∧ (10 : Int) ^ ((9 : Int)).toNat < 1000000000000000000000; decide)) (by show (0 : Int) < ((table.length : Nat) : Int); have h9 := ne_len hc; omega)))))) (fun hc => x_int)) (hret _ _ ⟨congrArg (fun z => (Ent.dat TL.rI z : Ent)) (show (if (!eqB table ([] : (List (List Int)))) = true then (((getA table (0 : Int))).length : Int) else (0 : Int)) = m__law_wide table from Eq.symm rfl), rfl, posted_any⟩)
theorem ok__law_wide (T : Txs K mg) : Callee P w K mg base CX0 "_law_wide" ["table"] (sp__law_wide).sp 1 := by
  obtain ⟨f, fd, Fn, hm, hb⟩ := T.d__law_wide.ex
  exact ⟨f, fd, fn__law_wide T Fn, hm, Fn.kp, hb⟩
end
end My

namespace My
open PySem PySem.Spec PyProof.Rows L2 TL
def m__law_whole (found : Int) : Bool :=
  (true && (!false))
def sp__law_whole : FS (Int) := { args := fun x => [.dat TL.rI x], res := fun x => .dat TL.rB (m__law_whole x) }
abbrev n__law_whole : List Str := ["found"]
theorem sc__law_whole : FnScope n__law_whole ["found"] (defScope s__law_whole) := ⟨rfl, rfl, rfl, by decide +kernel, rfl, by decide +kernel, by decide +kernel⟩
section
variable {P : Program} {w : World} {K : PySem.W.Frag} {mg : Str → Option Value} {base : Heap}
theorem fn__law_whole (T : Txs K mg) {f : Addr} {fd : FuncData} (Fn : Fun K "_law_whole" "_law_whole" s__law_whole f fd) : FnOk P w K mg base CX0 1 f fd ["found"] (sp__law_whole).sp := by
  refine fs_ok Fn sc__law_whole (fun _ => rfl) (fun _ => rfl) fun cdv_ A_ outer_ s_ H_ E_ found C_ D_ hr hret hnx => ?_
  have hu65 := hu65_of hr; have hu64 := hu64_of hr; have hu1 := hu1_of hr
  refine gs_G (G' := [.dat TL.rI found]) rfl ?_
  exact gs_ret (x_and (x_isi_int_I T.b_isinstance T.b_int (x_var 0 rfl)) (fun _ => (x_one (x_not (x_isi_bool_I T.b_isinstance T.b_bool (x_var 0 rfl)))))) (hret _ _ ⟨congrArg (fun z => (Ent.dat TL.rB z : Ent)) (show (true && (!false)) = m__law_whole found from Eq.symm rfl), rfl, posted_any⟩)
theorem ok__law_whole (T : Txs K mg) : Callee P w K mg base CX0 "_law_whole" ["found"] (sp__law_whole).sp 1 := by
  obtain ⟨f, fd, Fn, hm, hb⟩ := T.d__law_whole.ex
  exact ⟨f, fd, fn__law_whole T Fn, hm, Fn.kp, hb⟩
end
end My

namespace My
open PySem PySem.Spec PyProof.Rows L2 TL
def m__law_row_like (found : (List Int)) : Bool :=
  (true && (((List.map (fun (number : Int) => (m__law_whole number)) found)).all id))
def sp__law_row_like : FS ((List Int)) := { args := fun x => [.dat (rL TL.rI) x], res := fun x => .dat TL.rB (m__law_row_like x) }
abbrev n__law_row_like : List Str := ["found", "number"]
theorem sc__law_row_like : FnScope n__law_row_like ["found"] (defScope s__law_row_like) := ⟨rfl, rfl, rfl, by decide +kernel, rfl, by decide +kernel, by decide +kernel⟩
section
variable {P : Program} {w : World} {K : PySem.W.Frag} {mg : Str → Option Value} {base : Heap}
theorem fn__law_row_like (T : Txs K mg) {f : Addr} {fd : FuncData} (Fn : Fun K "_law_row_like" "_law_row_like" s__law_row_like f fd) : FnOk P w K mg base CX0 2 f fd ["found"] (sp__law_row_like).sp := by
  refine fs_ok Fn sc__law_row_like (fun _ => rfl) (fun _ => rfl) fun cdv_ A_ outer_ s_ H_ E_ found C_ D_ hr hret hnx => ?_
  have hu65 := hu65_of hr; have hu64 := hu64_of hr; have hu1 := hu1_of hr
  refine gs_G (G' := [.dat (rL TL.rI) found, .any]) rfl ?_
  exact gs_ret (x_and (x_isi_list_L T.b_isinstance T.b_list (rl_dat (x_var 0 rfl))) (fun _ => (x_one (x_all T.b_all (rl_dat (x_lst (x_lc0 (s := TL.rB) (f := (fun (number : Int) => (m__law_whole number))) 1 (k_list (x_var 0 rfl)) (noOwn_cons rfl rfl noOwn_nil) (fun C1 number hv _ _ _ _ _ => (x_call (ok__law_whole T) (hr.mono (by decide)) (number) (a_cons (x_var 1 rfl) a_nil) (.cons .nil) rfl)) sc__law_row_like.nd (blkOk_by (N := n__law_row_like) (sc := defScope s__law_row_like) (by decide +kernel)) (fun _ _ _ _ _ => pg_name sc__law_row_like.nd rfl (Or.inl rfl))))))))) (hret _ _ ⟨congrArg (fun z => (Ent.dat TL.rB z : Ent)) (show (true && (((List.map (fun (number : Int) => (m__law_whole number)) found)).all id)) = m__law_row_like found from Eq.symm rfl), rfl, posted_any⟩)
theorem ok__law_row_like (T : Txs K mg) : Callee P w K mg base CX0 "_law_row_like" ["found"] (sp__law_row_like).sp 2 := by
  obtain ⟨f, fd, Fn, hm, hb⟩ := T.d__law_row_like.ex
  exact ⟨f, fd, fn__law_row_like T Fn, hm, Fn.kp, hb⟩
end
end My

namespace My
open PySem PySem.Spec PyProof.Rows L2 TL
end My

namespace My
open PySem PySem.Spec PyProof.Rows L2 TL
def v__law_which_marks1 (ev : Er) : (List Bool) := [(decide (Er.table = ev)), (decide (Er.goal = ev)), (decide (Er.number = ev)), (decide (Er.web = ev))]
def v__law_which_marks2 (ev : Er) : (List Bool) := ((v__law_which_marks1 ev) ++ [(decide (Er.chain = ev)), (decide (Er.piece = ev))])
def m__law_which (ev : Er) : Str :=
  (if (((!decide (((List.count true (v__law_which_marks2 ev) : Nat) : Int) = (1 : Int)))) || (!true)) = true then (PySem.Str.ofString "other") else (getA [(PySem.Str.ofString "table"), (PySem.Str.ofString "goal"), (PySem.Str.ofString "number"), (PySem.Str.ofString "web"), (PySem.Str.ofString "chain"), (PySem.Str.ofString "piece")] ((idxB (v__law_which_marks2 ev) : Nat) : Int)))
theorem which_word : ∀ ev, ev ∈ ERS → m__law_which ev = ev.word := by
  intro ev h
  cases ev <;> first | rfl | (exfalso; revert h; decide)
theorem which_mem : ∀ ev, ev ∈ ERS → true ∈ v__law_which_marks2 ev := by
  intro ev h
  cases ev <;> first | decide | (exfalso; revert h; decide)
theorem which_lt : ∀ ev, ev ∈ ERS → ((idxB (v__law_which_marks2 ev) : Nat) : Int) < ((6 : Nat) : Int) := by
  intro ev h
  cases ev <;> first | decide | (exfalso; revert h; decide)
abbrev n__law_which : List Str := ["e", "marks"]
theorem sc__law_which : FnScope n__law_which ["e"] (defScope s__law_which) := ⟨rfl, rfl, rfl, by decide +kernel, rfl, by decide +kernel, by decide +kernel⟩
section
variable {P : Program} {w : World} {K : PySem.W.Frag} {mg : Str → Option Value} {base : Heap}
theorem w__law_which (T : Txs K mg) : WCallee P w K mg base "_law_which" ["e"] (fun e => e ∈ ERS) 1 := by
  obtain ⟨f, fd, Fn, hm, hb⟩ := T.d__law_which.ex
  refine ⟨f, fd, fn_which Fn sc__law_which rfl fun CX_ cdv_ A_ outer_ s_ H_ E_ p_ ev C_ D_ hev hr hz hf hret => ?_, hm, Fn.kp, hb⟩
  have hretW : ∀ {t : Str} (G : List Ent), m__law_which ev = t → RetOk C_ D_ G (.dat rS t) := fun G e => by rw [← e, which_word ev hev]; exact hret _
  refine gs_G (G' := [.dat (rRef p_.1) (), .any]) rfl ?_
  refine gs_set (i := 1) sc__law_which.nd rfl (Or.inl rfl) (e := .dat (rL TL.rB) (v__law_which_marks1 ev)) (x_is (x_lst (x_list (a_cons (x_isE (nm := "NoTable") (T.isa ev hev .table (by decide)) (T.isv ev hev) rfl (List.mem_singleton.mpr rfl) hz hf T.b_isinstance (x_var 0 rfl)) (a_cons (x_isE (nm := "NoGoal") (T.isa ev hev .goal (by decide)) (T.isv ev hev) rfl (List.mem_singleton.mpr rfl) hz hf T.b_isinstance (x_var 0 rfl)) (a_cons (x_isE (nm := "NoNumber") (T.isa ev hev .number (by decide)) (T.isv ev hev) rfl (List.mem_singleton.mpr rfl) hz hf T.b_isinstance (x_var 0 rfl)) (a_cons (x_isE (nm := "NoWeb") (T.isa ev hev .web (by decide)) (T.isv ev hev) rfl (List.mem_singleton.mpr rfl) hz hf T.b_isinstance (x_var 0 rfl)) a_nil)))) (.cons (.cons (.cons (.cons .nil)))))) rfl) ?_
  refine gs_set (i := 1) sc__law_which.nd rfl (Or.inl rfl) (e := .dat (rL TL.rB) (v__law_which_marks2 ev)) (x_is (x_lst (x_catL (rl_dat (x_var 1 rfl)) (rl_dat (x_lst (x_list (a_cons (x_isE (nm := "NoChain") (T.isa ev hev .chain (by decide)) (T.isv ev hev) rfl (List.mem_singleton.mpr rfl) hz hf T.b_isinstance (x_var 0 rfl)) (a_cons (x_isE (nm := "NoPiece") (T.isa ev hev .piece (by decide)) (T.isv ev hev) rfl (List.mem_singleton.mpr rfl) hz hf T.b_isinstance (x_var 0 rfl)) a_nil)) (.cons (.cons .nil))))) (by exact Nat.le_of_ble_eq_true rfl))) rfl) ?_
  refine gs_if (t_w (w_or (t_ne (x_countB (rl_dat (x_var 1 rfl)) x_bl) x_int) (fun hb => (w_or1 (t_not (t_v (x_isVE (T.isv ev hev) (List.mem_singleton.mpr rfl) hz hf T.b_isinstance T.b_ValueError (x_var 0 rfl)))))))) (fun h1 => ?_) (fun h1 => ?_)
  · have _ := h1
    exact gs_ret x_str (hretW _ ((ifp h1)))
  refine gs_nil ?_
  exact gs_ret (x_ixL (rl_dat (x_lst (x_list (a_cons x_str (a_cons x_str (a_cons x_str (a_cons x_str (a_cons x_str (a_cons x_str a_nil)))))) (.cons (.cons (.cons (.cons (.cons (.cons .nil))))))))) (x_indexB (by exact which_mem ev hev) (rl_dat (x_var 1 rfl)) x_bl) (getA_at (l := [(PySem.Str.ofString "table"), (PySem.Str.ofString "goal"), (PySem.Str.ofString "number"), (PySem.Str.ofString "web"), (PySem.Str.ofString "chain"), (PySem.Str.ofString "piece")]) (i := ((idxB (v__law_which_marks2 ev) : Nat) : Int)) (by omega) (by exact which_lt ev hev))) (hretW _ ((ifn h1)))
end
end My

namespace My
open PySem PySem.Spec PyProof.Rows L2 TL
def v__law_common_one1 (one : Int) : Int := ((Int.natAbs one : Nat) : Int)
def v__law_common_other2 (other : Int) : Int := ((Int.natAbs other : Nat) : Int)
def v__law_common_f3  : (Int × Int) → (Int × Int) := (fun (zz : (Int × Int)) => match zz with | (one'_s, other'_s) => (other'_s, (one'_s % other'_s)))
def v__law_common_t4  : (Int × Int) → Bool := (fun (zz : (Int × Int)) => match zz with | (one'_s, other'_s) => (decide ((0 : Int) < other'_s)))
def v__law_common_w5 (one : Int) (other : Int) : (Int × Int) := (whileL ((v__law_common_other2 other).toNat + 1) v__law_common_t4 v__law_common_f3 ((v__law_common_one1 one), (v__law_common_other2 other)))
def m__law_common (one : Int) (other : Int) : Int :=
  (v__law_common_w5 one other).1
theorem common_end (a b : Int) (hb : 0 ≤ b) : v__law_common_t4 (whileL (b.toNat + 1) v__law_common_t4 v__law_common_f3 (a, b)) = false :=
  whileL_end (fun z : Int × Int => 0 ≤ z.2) (fun z => z.2.toNat) (fun z h t => by
    have t : decide (0 < z.2) = true := t
    have t := of_decide_eq_true t
    exact Int.emod_nonneg _ (by omega)) (fun z h t => by
    have t : decide (0 < z.2) = true := t
    have t := of_decide_eq_true t
    have := Int.emod_lt_of_pos z.1 t
    show (z.1 % z.2).toNat < z.2.toNat
    omega) _ _ hb (Nat.le_succ _)
theorem common_dvd (a b : Int) : 0 ≤ m__law_common a b ∧ ∀ d, d ∣ m__law_common a b ↔ d ∣ a ∧ d ∣ b := by
  have h := whileL_inv (t := v__law_common_t4) (f := v__law_common_f3) (fun z : Int × Int => (0 ≤ z.1 ∧ 0 ≤ z.2) ∧ ∀ d, (d ∣ z.1 ∧ d ∣ z.2) ↔ (d ∣ a ∧ d ∣ b)) (fun z hz ht => by
    obtain ⟨⟨h1, h2⟩, h3⟩ := hz
    have ht : decide (0 < z.2) = true := ht
    have ht := of_decide_eq_true ht
    refine ⟨⟨h2, Int.emod_nonneg _ (by omega)⟩, fun d => ?_⟩
    rw [← h3]
    show (d ∣ z.2 ∧ d ∣ z.1 % z.2) ↔ _
    have e := Int.mul_ediv_add_emod z.1 z.2
    constructor
    · rintro ⟨g1, g2⟩
      refine ⟨?_, g1⟩
      rw [← e]
      exact Int.dvd_add (Int.dvd_mul_of_dvd_left g1) g2
    · rintro ⟨g1, g2⟩
      refine ⟨g2, ?_⟩
      rw [Int.emod_def]
      exact Int.dvd_sub g1 (Int.dvd_mul_of_dvd_left g2)) ((v__law_common_other2 b).toNat + 1) (v__law_common_one1 a, v__law_common_other2 b) ⟨⟨by unfold v__law_common_one1; omega, by unfold v__law_common_other2; omega⟩, fun d => by
      unfold v__law_common_one1 v__law_common_other2
      dsimp only
      rw [Int.dvd_natAbs, Int.dvd_natAbs]⟩
  have e := common_end (v__law_common_one1 a) (v__law_common_other2 b) (by unfold v__law_common_other2; omega)
  unfold m__law_common v__law_common_w5
  generalize whileL ((v__law_common_other2 b).toNat + 1) v__law_common_t4 v__law_common_f3 (v__law_common_one1 a, v__law_common_other2 b) = z at *
  obtain ⟨⟨h1, h2⟩, h3⟩ := h
  have e : decide (0 < z.2) = false := e
  have e := of_decide_eq_false e
  have z0 : z.2 = 0 := by omega
  refine ⟨h1, fun d => ?_⟩
  rw [← h3, z0]
  exact ⟨fun h => ⟨h, Int.dvd_zero d⟩, fun h => h.1⟩
theorem common_le {a b : Int} {m : Nat} (ha : 0 ≤ a ∧ a ≤ m) (hb : b.natAbs ≤ m) : 0 ≤ m__law_common a b ∧ m__law_common a b ≤ m := by
  obtain ⟨h0, hd⟩ := common_dvd a b
  refine ⟨h0, ?_⟩
  have s := (hd (m__law_common a b)).mp (Int.dvd_refl _)
  by_cases cb : b = 0
  · by_cases ca : a = 0
    · have := (hd 0).mpr ⟨by rw [ca]; exact Int.dvd_refl _, by rw [cb]; exact Int.dvd_refl _⟩
      rw [Int.zero_dvd.mp this]; omega
    · have := Int.le_of_dvd (by omega) s.1
      omega
  · have h1 : m__law_common a b ∣ ((b.natAbs : Nat) : Int) := Int.dvd_natAbs.mpr s.2
    have := Int.le_of_dvd (by omega) h1
    omega
def sp__law_common : FS (Int × Int) := { args := fun x => [.dat TL.rI x.1, .dat TL.rI x.2], res := fun x => .dat TL.rI (m__law_common x.1 x.2) }
abbrev n__law_common : List Str := ["one", "other"]
theorem sc__law_common : FnScope n__law_common ["one", "other"] (defScope s__law_common) := ⟨rfl, rfl, rfl, by decide +kernel, rfl, by decide +kernel, by decide +kernel⟩
section
variable {P : Program} {w : World} {K : PySem.W.Frag} {mg : Str → Option Value} {base : Heap}
theorem fn__law_common (T : Txs K mg) {f : Addr} {fd : FuncData} (Fn : Fun K "_law_common" "_law_common" s__law_common f fd) : FnOk P w K mg base CX0 1 f fd ["one", "other"] (sp__law_common).sp := by
  refine fs_ok Fn sc__law_common (fun _ => rfl) (fun _ => rfl) fun cdv_ A_ outer_ s_ H_ E_ x_ C_ D_ hr hret hnx => ?_
  have hu65 := hu65_of hr; have hu64 := hu64_of hr; have hu1 := hu1_of hr
  obtain ⟨one, other⟩ := x_
  refine gs_G (G' := [.dat TL.rI one, .dat TL.rI other]) rfl ?_
  refine gs_set (i := 0) sc__law_common.nd rfl (Or.inl rfl) (e := .dat TL.rI (v__law_common_one1 one)) (x_is (x_abs T.b_abs (x_var 0 rfl)) rfl) ?_
  refine gs_set (i := 1) sc__law_common.nd rfl (Or.inl rfl) (e := .dat TL.rI (v__law_common_other2 other)) (x_is (x_abs T.b_abs (x_var 1 rfl)) rfl) ?_
  refine gs_while (S := (Int × Int)) ((v__law_common_other2 other).toNat + 1) (fun (z : (Int × Int)) => [.dat TL.rI z.1, .dat TL.rI z.2]) ((v__law_common_one1 one), (v__law_common_other2 other)) v__law_common_t4 v__law_common_f3 (.keep (.keep .nil)) (by exact common_end _ _ (by unfold v__law_common_other2; omega)) (fun B1 ii zz hi hz => ?_) (fun B1 ii zz hi hz htt => ?_) ?_
  · obtain ⟨one'_s, other'_s⟩ := zz
    exact t_G (G2 := [.dat TL.rI one'_s, .dat TL.rI other'_s]) (G3 := [.dat TL.rI one'_s, .dat TL.rI other'_s]) (k2 := (decide ((0 : Int) < other'_s))) rfl rfl rfl (t_gt (x_var 1 rfl) x_int)
  · obtain ⟨one'_s, other'_s⟩ := zz
    refine gs_G (G' := [.dat TL.rI one'_s, .dat TL.rI other'_s]) rfl ?_
    have htt : (decide ((0 : Int) < other'_s)) = true := htt
    refine gs_par (j := 1) 0 sc__law_common.nd rfl rfl (by decide) (a_cons (x_var 1 rfl) (a_cons (x_mod (x_var 0 rfl) (x_var 1 rfl) (by first | omega | (show _ ≤ 16777216; omega) | (show _ < 16777216; omega) | (simp only [Bool.and_eq_true, Bool.not_eq_true', Bool.not_eq_false', Bool.or_eq_false_iff, Bool.and_eq_false_iff, decide_eq_true_eq, decide_eq_false_iff_not] at *; omega) | decide +kernel | (show (0 : Int) < (10 : Int) ^ ((9 : Int)).toNat ∧ (10 : Int) ^ ((9 : Int)).toNat < 1000000000000000000000; decide))) a_nil)) ?_
    refine gs_G (G' := [.dat TL.rI other'_s, .dat TL.rI (one'_s % other'_s)]) rfl ?_
    exact gs_endB (Gs := fun (z : (Int × Int)) => [.dat TL.rI z.1, .dat TL.rI z.2]) (rfl) (.keep (.keep .nil))
  refine gs_G (G' := [.dat TL.rI (v__law_common_w5 one other).1, .dat TL.rI (v__law_common_w5 one other).2]) rfl ?_
  exact gs_ret (x_var 0 rfl) (hret _ _ ⟨congrArg (fun z => (Ent.dat TL.rI z : Ent)) (show (v__law_common_w5 one other).1 = m__law_common one other from Eq.symm rfl), rfl, posted_any⟩)
theorem ok__law_common (T : Txs K mg) : Callee P w K mg base CX0 "_law_common" ["one", "other"] (sp__law_common).sp 1 := by
  obtain ⟨f, fd, Fn, hm, hb⟩ := T.d__law_common.ex
  exact ⟨f, fd, fn__law_common T Fn, hm, Fn.kp, hb⟩
end
end My

namespace My
open PySem PySem.Spec PyProof.Rows L2 TL
def v__law_determinant_total1  : Int := (0 : Int)
def v__law_determinant_sign2  : Int := (1 : Int)
def v__law_determinant_less3 (rows : (List (List Int))) (k : Int) : (List (List Int)) := (List.map (fun (row : (List Int)) => ((cutL row none (some k)) ++ (cutL row (some (k + (1 : Int))) none))) (cutL rows (some (1 : Int)) none))
def v__law_determinant_total4 (R_ : ((List (List Int)) → Int)) (rows : (List (List Int))) (total_s : Int) (sign_s : Int) (k : Int) : Int := (total_s + ((sign_s * (getA (getA rows (0 : Int)) k)) * (R_ (v__law_determinant_less3 rows k))))
def v__law_determinant_sign5 (sign_s : Int) : Int := (-sign_s)
def v__law_determinant_f6 (R_ : ((List (List Int)) → Int)) (rows : (List (List Int))) : (Int × Int) → Int → (Int × Int) := (fun (zz : (Int × Int)) (k : Int) => match zz with | (total_s, sign_s) => ((v__law_determinant_total4 R_ rows total_s sign_s k), (v__law_determinant_sign5 sign_s)))
def v__law_determinant_l7 (R_ : ((List (List Int)) → Int)) (rows : (List (List Int))) : (Int × Int) := (List.foldl (v__law_determinant_f6 R_ rows) (v__law_determinant_total1, v__law_determinant_sign2) (rng ((rows).length : Int)))
def b__law_determinant (R_ : (List (List Int)) → Int) (rows : (List (List Int))) : Int :=
  (if (eqB rows ([] : (List (List Int)))) = true then (1 : Int) else (v__law_determinant_l7 R_ rows).1)
def m__law_determinant : Nat → (List (List Int)) → Int
  | 0 => fun _ => default
  | n_ + 1 => b__law_determinant (m__law_determinant n_)
structure DetOk (n_ : Nat) (rows : List (List Int)) : Prop where
  n : rows.length < n_
  m : rows.length ≤ 3
  sq : ∀ row ∈ rows, row.length = rows.length
  bd : ∀ row ∈ rows, ∀ n ∈ row, n.natAbs ≤ 360
theorem rec0__law_determinant {rows : List (List Int)} : ¬ DetOk 0 rows := fun h => absurd h.n (Nat.not_lt_zero _)
theorem cut_rim {α : Type} (l : List α) (k : Nat) (h : k < l.length) : cutL l none (some (k : Int)) ++ cutL l (some ((k : Int) + 1)) none = l.eraseIdx k := by
  unfold cutL
  rw [HT.sIx_none, HT.sIx_none, HT.sIx_nat, show ((k : Int) + 1) = ((k + 1 : Nat) : Int) by omega, HT.sIx_nat, List.drop_zero, Nat.sub_zero, List.eraseIdx_eq_take_drop_succ, Nat.min_eq_left (by omega), Nat.min_eq_left (by omega)]
  congr 1
  exact List.take_of_length_le (by rw [List.length_drop]; exact Nat.le_refl _)
theorem cut1_tail (l : List (List Int)) : cutL l (some (1 : Int)) none = l.tail := by
  cases l with
  | nil => rfl
  | cons a l =>
    unfold cutL
    simp [HT.sIx]
theorem det_less {n_ : Nat} {rows : List (List Int)} (h : DetOk (n_ + 1) rows) {k : Int} (k0 : 0 ≤ k) (k1 : k < rows.length) : DetOk n_ (v__law_determinant_less3 rows k) := by
  have hl : (v__law_determinant_less3 rows k).length = rows.length - 1 := by
    unfold v__law_determinant_less3
    rw [List.length_map, cut1_tail, List.length_tail]
  have h1 := h.n
  have h2 := h.m
  refine ⟨by omega, by omega, fun row hr => ?_, fun row hr n hn => ?_⟩
  · rw [hl]
    unfold v__law_determinant_less3 at hr
    rw [cut1_tail] at hr
    obtain ⟨r, hr2, rfl⟩ := List.mem_map.mp hr
    have hm := List.mem_of_mem_tail hr2
    have hs := h.sq r hm
    obtain ⟨k, rfl⟩ := Int.eq_ofNat_of_zero_le k0
    rw [cut_rim r k (by omega), List.length_eraseIdx, if_pos (by omega), hs]
  · unfold v__law_determinant_less3 at hr
    rw [cut1_tail] at hr
    obtain ⟨r, hr2, rfl⟩ := List.mem_map.mp hr
    have hm := List.mem_of_mem_tail hr2
    rcases List.mem_append.mp hn with hn | hn
    · exact h.bd r hm n (mem_cutL hn)
    · exact h.bd r hm n (mem_cutL hn)
theorem det_sign {R : List (List Int) → Int} {rows : List (List Int)} : ∀ (l : List Int) (z : Int × Int), (z.2 = 1 ∨ z.2 = -1) → (l.foldl (v__law_determinant_f6 R rows) z).2 = 1 ∨ (l.foldl (v__law_determinant_f6 R rows) z).2 = -1
  | [], z, h => h
  | k :: l, z, h => det_sign l _ (by
    show -z.2 = 1 ∨ -z.2 = -1
    omega)
theorem det0 (n : Nat) : m__law_determinant (n + 1) [] = 1 := rfl
theorem det1 (n : Nat) (a : Int) : m__law_determinant (n + 2) [[a]] = a := by
  show 0 + 1 * a * m__law_determinant (n + 1) [] = a
  rw [det0]; omega
theorem det2' (n : Nat) (a b c d : Int) : m__law_determinant (n + 3) [[a, b], [c, d]] = a * d - b * c := by
  show (0 + 1 * a * m__law_determinant (n + 2) [[d]]) + (-1) * b * m__law_determinant (n + 2) [[c]] = _
  rw [det1, det1]
  grind
theorem det3' (n : Nat) (a b c d e f g h i : Int) : m__law_determinant (n + 4) [[a, b, c], [d, e, f], [g, h, i]] = a * (e * i - f * h) - b * (d * i - f * g) + c * (d * h - e * g) := by
  show ((0 + 1 * a * m__law_determinant (n + 3) [[e, f], [h, i]]) + (-1) * b * m__law_determinant (n + 3) [[d, f], [g, i]]) + (- (-1)) * c * m__law_determinant (n + 3) [[d, e], [g, h]] = _
  rw [det2', det2', det2']
  grind
theorem len1 {α : Type} {l : List α} (h : l.length = 1) : ∃ a, l = [a] := List.length_eq_one_iff.mp h
theorem len2 {α : Type} {l : List α} (h : l.length = 2) : ∃ a b, l = [a, b] := by
  match l, h with
  | [a, b], _ => exact ⟨a, b, rfl⟩
theorem len3 {α : Type} {l : List α} (h : l.length = 3) : ∃ a b c, l = [a, b, c] := by
  match l, h with
  | [a, b, c], _ => exact ⟨a, b, c, rfl⟩
theorem nab_m {x y : Int} {m n : Nat} (h1 : x.natAbs ≤ m) (h2 : y.natAbs ≤ n) : (x * y).natAbs ≤ m * n := by
  rw [Int.natAbs_mul]; exact Nat.mul_le_mul h1 h2
theorem det_bound {rows : List (List Int)} (h : DetOk 5 rows) : (m__law_determinant 5 rows).natAbs ≤ 279936000 := by
  have hm := h.m
  have e : rows.length = 0 ∨ rows.length = 1 ∨ rows.length = 2 ∨ rows.length = 3 := by omega
  have sq := h.sq
  have bd := h.bd
  rcases e with e | e | e | e
  · rw [List.eq_nil_of_length_eq_zero e, det0]; decide
  · obtain ⟨r, rfl⟩ := len1 e
    obtain ⟨a, rfl⟩ := len1 (sq r (by simp))
    rw [det1]
    have := bd [a] (by simp) a (by simp)
    omega
  · obtain ⟨r1, r2, rfl⟩ := len2 e
    obtain ⟨a, b, rfl⟩ := len2 (sq r1 (by simp))
    obtain ⟨c, d, rfl⟩ := len2 (sq r2 (by simp))
    have ha := bd [a, b] (by simp) a (by simp)
    have hb := bd [a, b] (by simp) b (by simp)
    have hc := bd [c, d] (by simp) c (by simp)
    have hd := bd [c, d] (by simp) d (by simp)
    rw [det2']
    have := nab_m ha hd
    have := nab_m hb hc
    omega
  · obtain ⟨r1, r2, r3, rfl⟩ := len3 e
    obtain ⟨a, b, c, rfl⟩ := len3 (sq r1 (by simp))
    obtain ⟨d, e', f, rfl⟩ := len3 (sq r2 (by simp))
    obtain ⟨g, h', i, rfl⟩ := len3 (sq r3 (by simp))
    have ha := bd [a, b, c] (by simp) a (by simp)
    have hb := bd [a, b, c] (by simp) b (by simp)
    have hc := bd [a, b, c] (by simp) c (by simp)
    have hd := bd [d, e', f] (by simp) d (by simp)
    have he := bd [d, e', f] (by simp) e' (by simp)
    have hf := bd [d, e', f] (by simp) f (by simp)
    have hg := bd [g, h', i] (by simp) g (by simp)
    have hh := bd [g, h', i] (by simp) h' (by simp)
    have hi := bd [g, h', i] (by simp) i (by simp)
    have two : ∀ {x y u v : Int}, x.natAbs ≤ 360 → y.natAbs ≤ 360 → u.natAbs ≤ 360 → v.natAbs ≤ 360 → (x * y - u * v).natAbs ≤ 259200 := fun h1 h2 h3 h4 => by
      have := nab_m h1 h2
      have := nab_m h3 h4
      omega
    rw [det3']
    have := nab_m ha (two he hi hf hh)
    have := nab_m hb (two hd hi hf hg)
    have := nab_m hc (two hd hh he hg)
    omega
def sp__law_determinant (n_ : Nat) : FS ({x : (List (List Int)) // DetOk n_ x}) := { args := fun x => [.dat (rL (rL TL.rI)) x.1], res := fun x => .dat TL.rI (m__law_determinant n_ x.1) }
abbrev n__law_determinant : List Str := ["rows", "total", "sign", "k", "less", "row"]
theorem sc__law_determinant : FnScope n__law_determinant ["rows"] (defScope s__law_determinant) := ⟨rfl, rfl, rfl, by decide +kernel, rfl, by decide +kernel, by decide +kernel⟩
section
variable {P : Program} {w : World} {K : PySem.W.Frag} {mg : Str → Option Value} {base : Heap}
theorem fn__law_determinant (T : Txs K mg) {f : Addr} {fd : FuncData} (Fn : Fun K "_law_determinant" "_law_determinant" s__law_determinant f fd) (n_ : Nat) (IH_ : Callee P w K mg base CX0 "_law_determinant" ["rows"] (sp__law_determinant n_).sp (1 + n_)) : FnOk P w K mg base CX0 (1 + n_ + 1) f fd ["rows"] (sp__law_determinant (n_ + 1)).sp := by
  refine fs_ok Fn sc__law_determinant (fun _ => rfl) (fun _ => rfl) fun cdv_ A_ outer_ s_ H_ E_ x_ C_ D_ hr hret hnx => ?_
  have hu65 := hu65_of hr; have hu64 := hu64_of hr; have hu1 := hu1_of hr
  obtain ⟨rows, hpre⟩ := x_
  refine gs_G (G' := [.dat (rL (rL TL.rI)) rows, .any, .any, .any, .any, .any]) rfl ?_
  have hq9 : DetOk (n_ + 1) rows := hpre
  have hm9 := hq9.m
  refine gs_if (t_eqD hu64 (x_var 0 rfl) (x_lst (x_list (r := (rL TL.rI)) a_nil .nil))) (fun h1 => ?_) (fun h1 => ?_)
  · have _ := h1
    exact gs_ret x_int (hret _ _ ⟨congrArg (fun z => (Ent.dat TL.rI z : Ent)) (show (1 : Int) = m__law_determinant (n_ + 1) rows from Eq.symm ((ifp h1))), rfl, posted_any⟩)
  refine gs_nil ?_
  refine gs_set (i := 1) sc__law_determinant.nd rfl (Or.inl rfl) (e := .dat TL.rI v__law_determinant_total1) (x_is x_int rfl) ?_
  refine gs_set (i := 2) sc__law_determinant.nd rfl (Or.inl rfl) (e := .dat TL.rI v__law_determinant_sign2) (x_is x_int rfl) ?_
  refine gs_for1 (S := (Int × Int)) 3 (k_rng1 (n := ((rows).length : Int)) T.b_range (a_cons (x_len T.b_len (rl_dat (x_var 0 rfl))) a_nil) (by omega)) (fun (z : (Int × Int)) => [.dat (rL (rL TL.rI)) rows, .dat TL.rI z.1, .dat TL.rI z.2, .any, .any, .any]) (v__law_determinant_total1, v__law_determinant_sign2) (v__law_determinant_f6 (m__law_determinant n_) rows) (.keep (.keep (.keep (.drop (.drop (.drop .nil)))))) (fun B1 ii k zz hi hz => ?_) ?_ sc__law_determinant.nd rfl (Or.inr rfl)
  · obtain ⟨total_s, sign_s⟩ := zz
    refine gs_G (G' := [.dat (rL (rL TL.rI)) rows, .dat TL.rI total_s, .dat TL.rI sign_s, .dat TL.rI k, .any, .any]) rfl ?_
    have hv := List.mem_of_getElem? hi
    have hv' := mem_rng hv
    have hsg9 := det_sign (R := m__law_determinant n_) (rows := rows) ((rng ((rows).length : Int)).take ii) (v__law_determinant_total1, v__law_determinant_sign2) (Or.inl rfl)
    rw [← hz] at hsg9
    have hsg9 : sign_s = 1 ∨ sign_s = -1 := hsg9
    have hr0 := getA_mem (l := rows) (i := 0) (Int.le_refl _) (by omega)
    have hl0 := hq9.sq _ hr0
    have hb0 := hq9.bd _ hr0 _ (getA_mem (l := getA rows 0) (i := k) (by omega) (by omega))
    refine gs_lc0 (s := (rL TL.rI)) (f := (fun (row : (List Int)) => ((cutL row none (some k)) ++ (cutL row (some (k + (1 : Int))) none)))) (i := 4) 5 (k_list (x_lst (x_slL (rl_dat (x_var 0 rfl)) (o_some x_int) o_none))) (noOwn_cons rfl rfl noOwn_nil) (fun C1 row hv _ _ _ _ _ => (x_lst (x_catL (rl_dat (x_lst (x_slL (rl_dat (x_var 5 rfl)) o_none (o_some (x_var 3 rfl))))) (rl_dat (x_lst (x_slL (rl_dat (x_var 5 rfl)) (o_some (x_add (x_var 3 rfl) x_int)) o_none))) (by have h9 := hq9.sq _ (mem_cutL hv); have h8 := cutL_length (l := row) (i := none) (j := some k); have h7 := cutL_length (l := row) (i := some (k + 1)) (j := none); show _ ≤ 16777216; omega)))) (en' := .dat (rL (rL TL.rI)) (v__law_determinant_less3 rows k)) (fun h => (Ev.known h).is rfl) ?_ sc__law_determinant.nd (blkOk_by (N := n__law_determinant) (sc := defScope s__law_determinant) (by decide +kernel)) (fun _ _ _ _ _ => pg_name sc__law_determinant.nd rfl (Or.inl rfl)) rfl rfl (sw_true rfl rfl rfl (by decide +kernel))
    refine gs_set (i := 1) sc__law_determinant.nd rfl (Or.inl rfl) (e := .dat TL.rI (v__law_determinant_total4 (m__law_determinant n_) rows total_s sign_s k)) (x_is (x_add (x_var 1 rfl) (x_mul (x_mul (x_var 2 rfl) (x_ixL (rl_dat (x_ixL (rl_dat (x_var 0 rfl)) x_int (getA_at (l := rows) (i := (0 : Int)) (by omega) (by omega)))) (x_var 3 rfl) (getA_at (l := (getA rows (0 : Int))) (i := k) (by omega) (by omega))) (by rcases hsg9 with h9 | h9 <;> rw [h9] <;> exact .inl ⟨by decide, by decide⟩)) (x_call IH_ (hr.mono (by omega)) ⟨(v__law_determinant_less3 rows k), (by exact det_less hq9 (by omega) (by omega))⟩ (a_cons (x_var 4 rfl) a_nil) (.cons .nil) rfl) (by rcases hsg9 with h9 | h9 <;> rw [h9] <;> exact .inl ⟨by omega, by omega⟩))) rfl) ?_
    refine gs_set (i := 2) sc__law_determinant.nd rfl (Or.inl rfl) (e := .dat TL.rI (v__law_determinant_sign5 sign_s)) (x_is (x_neg (x_var 2 rfl)) rfl) ?_
    exact gs_endB (Gs := fun (z : (Int × Int)) => [.dat (rL (rL TL.rI)) rows, .dat TL.rI z.1, .dat TL.rI z.2, .any, .any, .any]) (rfl) (.keep (.keep (.keep (.drop (.drop (.drop .nil))))))
  refine gs_G (G' := [.dat (rL (rL TL.rI)) rows, .dat TL.rI (v__law_determinant_l7 (m__law_determinant n_) rows).1, .dat TL.rI (v__law_determinant_l7 (m__law_determinant n_) rows).2, .any, .any, .any]) rfl ?_
  exact gs_ret (x_var 1 rfl) (hret _ _ ⟨congrArg (fun z => (Ent.dat TL.rI z : Ent)) (show (v__law_determinant_l7 (m__law_determinant n_) rows).1 = m__law_determinant (n_ + 1) rows from Eq.symm ((ifn h1))), rfl, posted_any⟩)
theorem ok__law_determinant (T : Txs K mg) : ∀ n_ : Nat, Callee P w K mg base CX0 "_law_determinant" ["rows"] (sp__law_determinant n_).sp (1 + n_)
  | 0 => by
    obtain ⟨f, fd, Fn, hm, hb⟩ := T.d__law_determinant.ex
    exact ⟨f, fd, (show FnOk P w K mg base CX0 (0 + 1) f fd ["rows"] (sp__law_determinant 0).sp from fs_ok Fn sc__law_determinant (fun _ => rfl) (fun _ => rfl) fun _ _ _ _ _ _ x _ _ _ _ _ => absurd x.2 rec0__law_determinant), hm, Fn.kp, hb⟩
  | n_ + 1 => by
    obtain ⟨f, fd, Fn, hm, hb⟩ := T.d__law_determinant.ex
    exact ⟨f, fd, fn__law_determinant T Fn n_ (ok__law_determinant T n_), hm, Fn.kp, hb⟩
end
end My

namespace My
open PySem PySem.Spec PyProof.Rows L2 TL
def v__law_choices_found1  : (List (List Int)) := [([] : (List Int))]
def v__law_choices_longer2  : (List (List Int)) := ([] : (List (List Int)))
def v__law_choices_longer3 (size : Int) (longer_s : (List (List Int))) (row : (List Int)) : (List (List Int)) := (longer_s ++ (List.map (fun (place : Int) => (row ++ [place])) (rng2 ((getA ([(-(1 : Int))] ++ row) (-(1 : Int))) + (1 : Int)) size)))
def v__law_choices_f4 (size : Int) : ((List (List Int))) → (List Int) → ((List (List Int))) := (fun (zz : ((List (List Int)))) (row : (List Int)) => let longer_s := zz; ((v__law_choices_longer3 size longer_s row)))
def v__law_choices_l5 (size : Int) (found_s : (List (List Int))) : ((List (List Int))) := (List.foldl (v__law_choices_f4 size) (v__law_choices_longer2) found_s)
def v__law_choices_found6 (size : Int) (found_s : (List (List Int))) : (List (List Int)) := (v__law_choices_l5 size found_s)
def v__law_choices_f7 (size : Int) : ((List (List Int))) → Int → ((List (List Int))) := (fun (zz : ((List (List Int)))) (k : Int) => let found_s := zz; ((v__law_choices_found6 size found_s)))
def v__law_choices_l8 (size : Int) (many : Int) : ((List (List Int))) := (List.foldl (v__law_choices_f7 size) (v__law_choices_found1) (rng many))
def m__law_choices (size : Int) (many : Int) : (List (List Int)) :=
  (v__law_choices_l8 size many)
def TbOk22 (t : List (List Int)) : Prop := t.length ≤ 3 ∧ ∃ c : Nat, c ≤ 3 ∧ ∀ row ∈ t, row.length = c ∧ ∀ n ∈ row, n.natAbs ≤ 360
def chk22 (L : List (List Int)) : Bool := decide (L.length ≤ 20) && L.all fun row => decide (row.length ≤ 3) && row.all (fun x => decide (0 ≤ x) && decide (x ≤ 2)) && decide (0 ≤ getA ([(-1 : Int)] ++ row) (-1) + 1) && decide (getA ([(-1 : Int)] ++ row) (-1) + 1 ≤ 3)
theorem choices_all : ((rng 4).all fun size => (rng 4).all fun many => (List.range 4).all fun ii => chk22 (((rng many).take ii).foldl (v__law_choices_f7 size) v__law_choices_found1) && (List.range 21).all fun jj => chk22 (((((rng many).take ii).foldl (v__law_choices_f7 size) v__law_choices_found1).take jj).foldl (v__law_choices_f4 size) v__law_choices_longer2)) = true := by decide +kernel
theorem rng_neg {n : Int} (h : n ≤ 0) : rng n = [] := by
  unfold rng
  rw [show n.toNat = 0 by omega]; rfl
theorem mem_rng4 {n : Int} (h0 : 0 ≤ n) (h1 : n ≤ 3) : n ∈ rng 4 := by
  have : n = 0 ∨ n = 1 ∨ n = 2 ∨ n = 3 := by omega
  rcases this with e | e | e | e <;> subst e <;> decide
theorem choices_st {size many : Int} {ii : Nat} (h0 : 0 ≤ size) (h1 : size ≤ 3) (h2 : many ≤ 3) (hi : ii < 4) : chk22 (((rng many).take ii).foldl (v__law_choices_f7 size) v__law_choices_found1) = true ∧ ∀ jj, chk22 (((((rng many).take ii).foldl (v__law_choices_f7 size) v__law_choices_found1).take jj).foldl (v__law_choices_f4 size) v__law_choices_longer2) = true := by
  have main : ∀ m : Int, 0 ≤ m → m ≤ 3 → chk22 (((rng m).take ii).foldl (v__law_choices_f7 size) v__law_choices_found1) = true ∧ ∀ jj, chk22 (((((rng m).take ii).foldl (v__law_choices_f7 size) v__law_choices_found1).take jj).foldl (v__law_choices_f4 size) v__law_choices_longer2) = true := fun m m0 m1 => by
    have a := List.all_eq_true.mp (List.all_eq_true.mp (List.all_eq_true.mp choices_all size (mem_rng4 h0 h1)) m (mem_rng4 m0 m1)) ii (List.mem_range.mpr hi)
    rw [Bool.and_eq_true] at a
    refine ⟨a.1, fun jj => ?_⟩
    by_cases c : jj < 21
    · exact List.all_eq_true.mp a.2 jj (List.mem_range.mpr c)
    · have l : (((rng m).take ii).foldl (v__law_choices_f7 size) v__law_choices_found1).length ≤ 20 := by
        have a1 := a.1
        unfold chk22 at a1
        rw [Bool.and_eq_true] at a1
        exact of_decide_eq_true a1.1
      have e : ∀ j, 20 ≤ j → (((rng m).take ii).foldl (v__law_choices_f7 size) v__law_choices_found1).take j = (((rng m).take ii).foldl (v__law_choices_f7 size) v__law_choices_found1) := fun j hj => List.take_of_length_le (by omega)
      rw [e jj (by omega), ← e 20 (Nat.le_refl _)]
      exact List.all_eq_true.mp a.2 20 (by decide)
  by_cases c : 0 ≤ many
  · exact main many c h2
  · have := main 0 (Int.le_refl _) (by decide)
    rw [rng_neg (n := many) (by omega)]
    rw [rng_neg (n := 0) (Int.le_refl _)] at this
    exact this
theorem chk_row {L : List (List Int)} (h : chk22 L = true) {row : List Int} (hr : row ∈ L) : row.length ≤ 3 ∧ (∀ x ∈ row, 0 ≤ x ∧ x ≤ 2) ∧ 0 ≤ getA ([(-1 : Int)] ++ row) (-1) + 1 ∧ getA ([(-1 : Int)] ++ row) (-1) + 1 ≤ 3 := by
  unfold chk22 at h
  rw [Bool.and_eq_true] at h
  have a := List.all_eq_true.mp h.2 row hr
  rw [Bool.and_eq_true, Bool.and_eq_true, Bool.and_eq_true, decide_eq_true_eq, decide_eq_true_eq, decide_eq_true_eq] at a
  refine ⟨a.1.1.1, fun x hx => ?_, a.1.2, a.2⟩
  have b := List.all_eq_true.mp a.1.1.2 x hx
  rw [Bool.and_eq_true, decide_eq_true_eq, decide_eq_true_eq] at b
  exact b
theorem chk_len {L : List (List Int)} (h : chk22 L = true) : L.length ≤ 20 := by
  unfold chk22 at h
  rw [Bool.and_eq_true] at h
  exact of_decide_eq_true h.1
theorem lt_of_get {α : Type} {l : List α} {i : Nat} {a : α} (h : l[i]? = some a) : i < l.length := by
  rw [List.getElem?_eq_some_iff] at h; exact h.1
theorem choices_rows : ((rng 4).all fun size => (rng 4).all fun many => (m__law_choices size many).all fun row => decide ((row.length : Int) = many) && row.all fun x => decide (0 ≤ x) && decide (x < size)) = true := by decide +kernel
theorem ch_row {size many : Int} {row : List Int} (s0 : 0 ≤ size) (s1 : size ≤ 3) (m0 : 0 ≤ many) (m1 : many ≤ 3) (h : row ∈ m__law_choices size many) : (row.length : Int) = many ∧ ∀ x ∈ row, 0 ≤ x ∧ x < size := by
  have a := List.all_eq_true.mp (List.all_eq_true.mp (List.all_eq_true.mp choices_rows size (mem_rng4 s0 s1)) many (mem_rng4 m0 m1)) row h
  rw [Bool.and_eq_true, decide_eq_true_eq] at a
  refine ⟨a.1, fun x hx => ?_⟩
  have b := List.all_eq_true.mp a.2 x hx
  rw [Bool.and_eq_true, decide_eq_true_eq, decide_eq_true_eq] at b
  exact b
def sp__law_choices : FS ({x : Int × Int // 0 ≤ x.1 ∧ x.1 ≤ 3 ∧ 0 ≤ x.2 ∧ x.2 ≤ 3}) := { args := fun x => [.dat TL.rI x.1.1, .dat TL.rI x.1.2], res := fun x => .dat (rL (rL TL.rI)) (m__law_choices x.1.1 x.1.2) }
abbrev n__law_choices : List Str := ["size", "many", "found", "k", "longer", "row", "place"]
theorem sc__law_choices : FnScope n__law_choices ["size", "many"] (defScope s__law_choices) := ⟨rfl, rfl, rfl, by decide +kernel, rfl, by decide +kernel, by decide +kernel⟩
section
variable {P : Program} {w : World} {K : PySem.W.Frag} {mg : Str → Option Value} {base : Heap}
theorem fn__law_choices (T : Txs K mg) {f : Addr} {fd : FuncData} (Fn : Fun K "_law_choices" "_law_choices" s__law_choices f fd) : FnOk P w K mg base CX0 1 f fd ["size", "many"] (sp__law_choices).sp := by
  refine fs_ok Fn sc__law_choices (fun _ => rfl) (fun _ => rfl) fun cdv_ A_ outer_ s_ H_ E_ x_ C_ D_ hr hret hnx => ?_
  have hu65 := hu65_of hr; have hu64 := hu64_of hr; have hu1 := hu1_of hr
  obtain ⟨⟨size, many⟩, hpre⟩ := x_
  refine gs_G (G' := [.dat TL.rI size, .dat TL.rI many, .any, .any, .any, .any, .any]) rfl ?_
  have hq : 0 ≤ size ∧ size ≤ 3 ∧ 0 ≤ many ∧ many ≤ 3 := hpre
  refine gs_set (i := 2) sc__law_choices.nd rfl (Or.inl rfl) (e := .dat (rL (rL TL.rI)) v__law_choices_found1) (x_is (x_lst (x_list (a_cons (x_lst (x_list (r := TL.rI) a_nil .nil)) a_nil) (.cons .nil))) rfl) ?_
  refine gs_for1 (S := ((List (List Int)))) 3 (k_rng1 (n := many) T.b_range (a_cons (x_var 1 rfl) a_nil) (by omega)) (fun (z : ((List (List Int)))) => [.dat TL.rI size, .dat TL.rI many, .dat (rL (rL TL.rI)) z, .any, .any, .any, .any]) (v__law_choices_found1) (v__law_choices_f7 size) (.keep (.keep (.keep (.drop (.drop (.drop (.drop .nil))))))) (fun B1 ii k found_s hi hz => ?_) ?_ sc__law_choices.nd rfl (Or.inl rfl)
  · have _ := hz
    refine gs_G (G' := [.dat TL.rI size, .dat TL.rI many, .dat (rL (rL TL.rI)) found_s, .dat TL.rI k, .any, .any, .any]) rfl ?_
    have hv := List.mem_of_getElem? hi
    have hv' := mem_rng hv
    have hi9 := lt_of_get hi
    rw [rng_length] at hi9
    have hst9 := choices_st (many := many) (ii := ii) hq.1 hq.2.1 hq.2.2.2 (by omega)
    rw [← hz] at hst9
    refine gs_set (i := 4) sc__law_choices.nd rfl (Or.inl rfl) (e := .dat (rL (rL TL.rI)) v__law_choices_longer2) (x_is (x_lst (x_list (r := (rL TL.rI)) a_nil .nil)) rfl) ?_
    refine gs_for1 (S := ((List (List Int)))) 5 (k_list (x_var 2 rfl)) (fun (z : ((List (List Int)))) => [.dat TL.rI size, .dat TL.rI many, .dat (rL (rL TL.rI)) found_s, .dat TL.rI k, .dat (rL (rL TL.rI)) z, .any, .any]) (v__law_choices_longer2) (v__law_choices_f4 size) (.keep (.keep (.keep (.keep (.keep (.drop (.drop .nil))))))) (fun B1 ii row longer_s hi hz => ?_) ?_ sc__law_choices.nd rfl (Or.inr rfl)
    · have _ := hz
      refine gs_G (G' := [.dat TL.rI size, .dat TL.rI many, .dat (rL (rL TL.rI)) found_s, .dat TL.rI k, .dat (rL (rL TL.rI)) longer_s, .dat (rL TL.rI) row, .any]) rfl ?_
      have hv := List.mem_of_getElem? hi
      have hrow9 := chk_row hst9.1 hv
      have hlg9 := chk_len (hst9.2 ii)
      rw [← hz] at hlg9
      refine gs_set (i := 4) sc__law_choices.nd rfl (Or.inl rfl) (e := .dat (rL (rL TL.rI)) (v__law_choices_longer3 size longer_s row)) (x_is (x_lst (x_catL (rl_dat (x_var 4 rfl)) (rl_dat (x_lst (x_lc0 (s := (rL TL.rI)) (f := (fun (place : Int) => (row ++ [place]))) 6 (k_rng2 (n := ((getA ([(-(1 : Int))] ++ row) (-(1 : Int))) + (1 : Int))) (m := size) T.b_range (a_cons (x_add (x_ixL (rl_dat (x_lst (x_catL (rl_dat (x_lst (x_list (a_cons (x_neg x_int) a_nil) (.cons .nil)))) (rl_dat (x_var 5 rfl)) (by rw [List.length_singleton]; show _ ≤ 16777216; omega)))) (x_neg x_int) (getA_last (by exact List.cons_ne_nil _ _))) x_int) (a_cons (x_var 0 rfl) a_nil)) (by omega)) (noOwn_cons rfl rfl noOwn_nil) (fun C1 place hv _ _ _ _ _ => have hv' := mem_rng2 hv; (x_lst (x_catL (rl_dat (x_var 5 rfl)) (rl_dat (x_lst (x_list (a_cons (x_var 6 rfl) a_nil) (.cons .nil)))) (by rw [List.length_singleton]; show _ ≤ 16777216; omega)))) sc__law_choices.nd (blkOk_by (N := n__law_choices) (sc := defScope s__law_choices) (by decide +kernel)) (fun _ _ _ _ _ => pg_name sc__law_choices.nd rfl (Or.inl rfl))))) (by rw [List.length_map, rng2_length]; show _ ≤ 16777216; omega))) rfl) ?_
      exact gs_endB (Gs := fun (z : ((List (List Int)))) => [.dat TL.rI size, .dat TL.rI many, .dat (rL (rL TL.rI)) found_s, .dat TL.rI k, .dat (rL (rL TL.rI)) z, .any, .any]) (rfl) (.keep (.keep (.keep (.keep (.keep (.drop (.drop .nil)))))))
    refine gs_G (G' := [.dat TL.rI size, .dat TL.rI many, .dat (rL (rL TL.rI)) found_s, .dat TL.rI k, .dat (rL (rL TL.rI)) (v__law_choices_l5 size found_s), .any, .any]) rfl ?_
    refine gs_set (i := 2) sc__law_choices.nd rfl (Or.inl rfl) (e := .dat (rL (rL TL.rI)) (v__law_choices_found6 size found_s)) (x_is (x_var 4 rfl) rfl) ?_
    exact gs_endB (Gs := fun (z : ((List (List Int)))) => [.dat TL.rI size, .dat TL.rI many, .dat (rL (rL TL.rI)) z, .any, .any, .any, .any]) (rfl) (.keep (.keep (.keep (.drop (.drop (.drop (.drop .nil)))))))
  refine gs_G (G' := [.dat TL.rI size, .dat TL.rI many, .dat (rL (rL TL.rI)) (v__law_choices_l8 size many), .any, .any, .any, .any]) rfl ?_
  exact gs_ret (x_var 2 rfl) (hret _ _ ⟨congrArg (fun z => (Ent.dat (rL (rL TL.rI)) z : Ent)) (show (v__law_choices_l8 size many) = m__law_choices size many from Eq.symm rfl), rfl, posted_any⟩)
theorem ok__law_choices (T : Txs K mg) : Callee P w K mg base CX0 "_law_choices" ["size", "many"] (sp__law_choices).sp 1 := by
  obtain ⟨f, fd, Fn, hm, hb⟩ := T.d__law_choices.ex
  exact ⟨f, fd, fn__law_choices T Fn, hm, Fn.kp, hb⟩
end
end My

namespace My
open PySem PySem.Spec PyProof.Rows L2 TL
def v__law_divisor_found1  : Int := (0 : Int)
def v__law_divisor_square2 (table : (List (List Int))) (rows : (List Int)) (places : (List Int)) : (List (List Int)) := (List.map (fun (row : Int) => (List.map (fun (place : Int) => (getA (getA table row) place)) places)) rows)
def v__law_divisor_found3 (table : (List (List Int))) (found_s : Int) (rows : (List Int)) (found_s : Int) (places : (List Int)) : Int := (m__law_common found_s (m__law_determinant 5 (v__law_divisor_square2 table rows places)))
def v__law_divisor_f4 (table : (List (List Int))) (found_s : Int) (rows : (List Int)) : (Int) → (List Int) → (Int) := (fun (zz : (Int)) (places : (List Int)) => let found_s := zz; ((v__law_divisor_found3 table found_s rows found_s places)))
def v__law_divisor_l5 (table : (List (List Int))) (many : Int) (found_s : Int) (rows : (List Int)) : (Int) := (List.foldl (v__law_divisor_f4 table found_s rows) (found_s) (m__law_choices (m__law_wide table) many))
def v__law_divisor_f6 (table : (List (List Int))) (many : Int) : (Int) → (List Int) → (Int) := (fun (zz : (Int)) (rows : (List Int)) => let found_s := zz; ((v__law_divisor_l5 table many found_s rows)))
def v__law_divisor_l7 (table : (List (List Int))) (many : Int) : (Int) := (List.foldl (v__law_divisor_f6 table many) (v__law_divisor_found1) (m__law_choices ((table).length : Int) many))
def m__law_divisor (table : (List (List Int))) (many : Int) : Int :=
  (v__law_divisor_l7 table many)
theorem wide22 {t : List (List Int)} (h : TbOk22 t) : 0 ≤ m__law_wide t ∧ m__law_wide t ≤ 3 ∧ ∀ row ∈ t, (row.length : Int) = m__law_wide t := by
  obtain ⟨h1, c, h2, h3⟩ := h
  cases t with
  | nil => exact ⟨by decide, by decide, fun row hr => absurd hr List.not_mem_nil⟩
  | cons r t =>
    have e : m__law_wide (r :: t) = r.length := by
      unfold m__law_wide
      rw [if_pos (by simp [eqB]), show getA (r :: t) (0 : Int) = r from getA_nat (l := r :: t) (j := 0) (Nat.succ_pos _)]
    have hr := (h3 r List.mem_cons_self).1
    rw [e]
    exact ⟨by omega, by omega, fun row h => by rw [(h3 row h).1, hr]⟩
theorem div_sq {t : List (List Int)} {many : Int} {rows places : List Int} (h : TbOk22 t) (m0 : 0 ≤ many) (m1 : many ≤ 3) (h1 : rows ∈ m__law_choices ((t.length : Nat) : Int) many) (h2 : places ∈ m__law_choices (m__law_wide t) many) : DetOk 5 (v__law_divisor_square2 t rows places) := by
  obtain ⟨w0, w1, w2⟩ := wide22 h
  have hl := h.1
  obtain ⟨a1, a2⟩ := ch_row (by omega) (by omega) m0 m1 h1
  obtain ⟨b1, b2⟩ := ch_row w0 w1 m0 m1 h2
  have e : (v__law_divisor_square2 t rows places).length = rows.length := by unfold v__law_divisor_square2; rw [List.length_map]
  refine ⟨by omega, by omega, fun row hr => ?_, fun row hr n hn => ?_⟩
  · rw [e]
    unfold v__law_divisor_square2 at hr
    obtain ⟨r, _, rfl⟩ := List.mem_map.mp hr
    rw [List.length_map]; omega
  · unfold v__law_divisor_square2 at hr
    obtain ⟨r, hr2, rfl⟩ := List.mem_map.mp hr
    obtain ⟨p, hp, rfl⟩ := List.mem_map.mp hn
    have hm := getA_mem (l := t) (i := r) (a2 r hr2).1 (a2 r hr2).2
    obtain ⟨_, c, _, h3⟩ := h
    exact (h3 _ hm).2 _ (getA_mem (b2 p hp).1 (by have := w2 _ hm; have := (b2 p hp).2; omega))
theorem div_le {t : List (List Int)} {many : Int} (h : TbOk22 t) (m0 : 0 ≤ many) (m1 : many ≤ 3) : 0 ≤ m__law_divisor t many ∧ m__law_divisor t many ≤ 279936000 := by
  have inner : ∀ (rows : List Int) (f : Int), rows ∈ m__law_choices ((t.length : Nat) : Int) many → ∀ (l : List (List Int)) (z : Int), (∀ p ∈ l, p ∈ m__law_choices (m__law_wide t) many) → 0 ≤ z ∧ z ≤ 279936000 → 0 ≤ l.foldl (v__law_divisor_f4 t f rows) z ∧ l.foldl (v__law_divisor_f4 t f rows) z ≤ 279936000 := fun rows f hr l => by
    induction l with
    | nil => intro z _ hz; exact hz
    | cons p l ih =>
      intro z hp hz
      exact ih _ (fun q hq => hp q (List.mem_cons_of_mem _ hq)) (common_le (m := 279936000) hz (det_bound (div_sq h m0 m1 hr (hp p List.mem_cons_self))))
  have outer : ∀ (l : List (List Int)) (z : Int), (∀ p ∈ l, p ∈ m__law_choices ((t.length : Nat) : Int) many) → 0 ≤ z ∧ z ≤ 279936000 → 0 ≤ l.foldl (v__law_divisor_f6 t many) z ∧ l.foldl (v__law_divisor_f6 t many) z ≤ 279936000 := fun l => by
    induction l with
    | nil => intro z _ hz; exact hz
    | cons p l ih =>
      intro z hp hz
      exact ih _ (fun q hq => hp q (List.mem_cons_of_mem _ hq)) (inner p z (hp p List.mem_cons_self) _ _ (fun q hq => hq) hz)
  exact outer _ 0 (fun q hq => hq) ⟨by decide, by decide⟩
def sp__law_divisor : FS ({x : (List (List Int)) × Int // TbOk22 x.1 ∧ 1 ≤ x.2 ∧ x.2 ≤ 3}) := { args := fun x => [.dat (rL (rL TL.rI)) x.1.1, .dat TL.rI x.1.2], res := fun x => .dat TL.rI (m__law_divisor x.1.1 x.1.2) }
abbrev n__law_divisor : List Str := ["table", "many", "found", "rows", "places", "square", "place", "row"]
theorem sc__law_divisor : FnScope n__law_divisor ["table", "many"] (defScope s__law_divisor) := ⟨rfl, rfl, rfl, by decide +kernel, rfl, by decide +kernel, by decide +kernel⟩
section
variable {P : Program} {w : World} {K : PySem.W.Frag} {mg : Str → Option Value} {base : Heap}
theorem fn__law_divisor (T : Txs K mg) {f : Addr} {fd : FuncData} (Fn : Fun K "_law_divisor" "_law_divisor" s__law_divisor f fd) : FnOk P w K mg base CX0 7 f fd ["table", "many"] (sp__law_divisor).sp := by
  refine fs_ok Fn sc__law_divisor (fun _ => rfl) (fun _ => rfl) fun cdv_ A_ outer_ s_ H_ E_ x_ C_ D_ hr hret hnx => ?_
  have hu65 := hu65_of hr; have hu64 := hu64_of hr; have hu1 := hu1_of hr
  obtain ⟨⟨table, many⟩, hpre⟩ := x_
  refine gs_G (G' := [.dat (rL (rL TL.rI)) table, .dat TL.rI many, .any, .any, .any, .any, .any, .any]) rfl ?_
  have hq9 : TbOk22 table := hpre.1
  have hm0 : 1 ≤ many ∧ many ≤ 3 := hpre.2
  have hw9 := wide22 hq9
  have hl9 := hq9.1
  refine gs_set (i := 2) sc__law_divisor.nd rfl (Or.inl rfl) (e := .dat TL.rI v__law_divisor_found1) (x_is x_int rfl) ?_
  refine gs_for1 (S := (Int)) 3 (k_list (x_call (ok__law_choices T) (hr.mono (by decide)) ⟨(((table).length : Int), many), (by show 0 ≤ ((table.length : Nat) : Int) ∧ ((table.length : Nat) : Int) ≤ 3 ∧ 0 ≤ many ∧ many ≤ 3; omega)⟩ (a_cons (x_len T.b_len (rl_dat (x_var 0 rfl))) (a_cons (x_var 1 rfl) a_nil)) (.cons (.cons .nil)) rfl)) (fun (z : (Int)) => [.dat (rL (rL TL.rI)) table, .dat TL.rI many, .dat TL.rI z, .any, .any, .any, .any, .any]) (v__law_divisor_found1) (v__law_divisor_f6 table many) (.keep (.keep (.keep (.drop (.drop (.drop (.drop (.drop .nil)))))))) (fun B1 ii rows found_s hi hz => ?_) ?_ sc__law_divisor.nd rfl (Or.inl rfl)
  · have _ := hz
    refine gs_G (G' := [.dat (rL (rL TL.rI)) table, .dat TL.rI many, .dat TL.rI found_s, .dat (rL TL.rI) rows, .any, .any, .any, .any]) rfl ?_
    have hv := List.mem_of_getElem? hi
    have hv9 : rows ∈ m__law_choices ((table.length : Nat) : Int) many := hv
    have hr9 := (ch_row (by omega) (by omega) (by omega) (by omega) hv9).2
    refine gs_for1 (S := (Int)) 4 (k_list (x_call (ok__law_choices T) (hr.mono (by decide)) ⟨((m__law_wide table), many), (by show 0 ≤ m__law_wide table ∧ m__law_wide table ≤ 3 ∧ 0 ≤ many ∧ many ≤ 3; omega)⟩ (a_cons (x_call (ok__law_wide T) (hr.mono (by decide)) (table) (a_cons (x_var 0 rfl) a_nil) (.cons .nil) rfl) (a_cons (x_var 1 rfl) a_nil)) (.cons (.cons .nil)) rfl)) (fun (z : (Int)) => [.dat (rL (rL TL.rI)) table, .dat TL.rI many, .dat TL.rI z, .dat (rL TL.rI) rows, .any, .any, .any, .any]) (found_s) (v__law_divisor_f4 table found_s rows) (.keep (.keep (.keep (.keep (.drop (.drop (.drop (.drop .nil)))))))) (fun B1 ii places found_s hi hz => ?_) ?_ sc__law_divisor.nd rfl (Or.inr rfl)
    · have _ := hz
      refine gs_G (G' := [.dat (rL (rL TL.rI)) table, .dat TL.rI many, .dat TL.rI found_s, .dat (rL TL.rI) rows, .dat (rL TL.rI) places, .any, .any, .any]) rfl ?_
      have hv := List.mem_of_getElem? hi
      have hv8 : places ∈ m__law_choices (m__law_wide table) many := hv
      have hp9 := (ch_row hw9.1 hw9.2.1 (by omega) (by omega) hv8).2
      refine gs_lc0 (s := (rL TL.rI)) (f := (fun (row : Int) => (List.map (fun (place : Int) => (getA (getA table row) place)) places))) (i := 5) 7 (k_list (x_var 3 rfl)) (noOwn_cons rfl rfl noOwn_nil) (fun C1 row hv _ _ _ _ _ => (x_lst (x_lc0 (s := TL.rI) (f := (fun (place : Int) => (getA (getA table row) place))) 6 (k_list (x_var 4 rfl)) (noOwn_cons rfl rfl noOwn_nil) (fun C1 place hv _ _ _ _ _ => (x_ixL (rl_dat (x_ixL (rl_dat (x_var 0 rfl)) (x_var 7 rfl) (getA_at (l := table) (i := row) (by exact (hr9 row (by assumption)).1) (by exact (hr9 row (by assumption)).2)))) (x_var 6 rfl) (getA_at (l := (getA table row)) (i := place) (by exact (hp9 place (by assumption)).1) (by have h9 := hw9.2.2 _ (getA_mem (hr9 row (by assumption)).1 (hr9 row (by assumption)).2); have h8 := (hp9 place (by assumption)).2; omega)))) sc__law_divisor.nd (blkOk_by (by kernel_rfl)) (fun _ _ _ _ _ => pg_name sc__law_divisor.nd rfl (Or.inl rfl))))) (en' := .dat (rL (rL TL.rI)) (v__law_divisor_square2 table rows places)) (fun h => (Ev.known h).is rfl) ?_ sc__law_divisor.nd (blkOk_by (N := n__law_divisor) (sc := defScope s__law_divisor) (by decide +kernel)) (fun _ _ _ _ _ => pg_name sc__law_divisor.nd rfl (by first | exact Or.inl rfl | exact Or.inr rfl)) rfl rfl (sw_true rfl rfl rfl (by decide +kernel))
      refine gs_set (i := 2) sc__law_divisor.nd rfl (Or.inl rfl) (e := .dat TL.rI (v__law_divisor_found3 table found_s rows found_s places)) (x_is (x_call (ok__law_common T) (hr.mono (by decide)) (found_s, (m__law_determinant 5 (v__law_divisor_square2 table rows places))) (a_cons (x_var 2 rfl) (a_cons (x_call (ok__law_determinant T 5) (hr.mono (by decide)) ⟨(v__law_divisor_square2 table rows places), (by exact div_sq hq9 (by omega) (by omega) hv9 hv8)⟩ (a_cons (x_var 5 rfl) a_nil) (.cons .nil) rfl) a_nil)) (.cons (.cons .nil)) rfl) rfl) ?_
      exact gs_endB (Gs := fun (z : (Int)) => [.dat (rL (rL TL.rI)) table, .dat TL.rI many, .dat TL.rI z, .dat (rL TL.rI) rows, .any, .any, .any, .any]) (rfl) (.keep (.keep (.keep (.keep (.drop (.drop (.drop (.drop .nil))))))))
    refine gs_G (G' := [.dat (rL (rL TL.rI)) table, .dat TL.rI many, .dat TL.rI (v__law_divisor_l5 table many found_s rows), .dat (rL TL.rI) rows, .any, .any, .any, .any]) rfl ?_
    exact gs_endB (Gs := fun (z : (Int)) => [.dat (rL (rL TL.rI)) table, .dat TL.rI many, .dat TL.rI z, .any, .any, .any, .any, .any]) (rfl) (.keep (.keep (.keep (.drop (.drop (.drop (.drop (.drop .nil))))))))
  refine gs_G (G' := [.dat (rL (rL TL.rI)) table, .dat TL.rI many, .dat TL.rI (v__law_divisor_l7 table many), .any, .any, .any, .any, .any]) rfl ?_
  exact gs_ret (x_var 2 rfl) (hret _ _ ⟨congrArg (fun z => (Ent.dat TL.rI z : Ent)) (show (v__law_divisor_l7 table many) = m__law_divisor table many from Eq.symm rfl), rfl, posted_any⟩)
theorem ok__law_divisor (T : Txs K mg) : Callee P w K mg base CX0 "_law_divisor" ["table", "many"] (sp__law_divisor).sp 7 := by
  obtain ⟨f, fd, Fn, hm, hb⟩ := T.d__law_divisor.ex
  exact ⟨f, fd, fn__law_divisor T Fn, hm, Fn.kp, hb⟩
end
end My

namespace My
open PySem PySem.Spec PyProof.Rows L2 TL
def v__law_steps_found1  : (List Int) := ([] : (List Int))
def v__law_steps_ahead2  : Int := (1 : Int)
def v__law_steps_here3 (table : (List (List Int))) (many : Int) : Int := (m__law_divisor table many)
def v__law_steps_ahead4 (table : (List (List Int))) (many : Int) : Int := (v__law_steps_here3 table many)
def v__law_steps_f5 (table : (List (List Int))) : ((List Int) × Int) → Int → (List Int) ⊕ ((List Int) × Int) := (fun (zz : ((List Int) × Int)) (many : Int) => match zz with | (found_s, ahead_s) => (if (decide ((v__law_steps_here3 table many) = (0 : Int))) = true then (Sum.inl found_s) else (Sum.inr ((found_s ++ [((v__law_steps_here3 table many) / ahead_s)]), (v__law_steps_ahead4 table many)))))
def m__law_steps (table : (List (List Int))) : (List Int) :=
  (outR (loopR (v__law_steps_f5 table) (v__law_steps_found1, v__law_steps_ahead2) (rng2 (1 : Int) ((if (m__law_wide table) < ((table).length : Int) then (m__law_wide table) else ((table).length : Int)) + (1 : Int)))) (fun zr1 => zr1.1))
theorem steps_st {t : List (List Int)} (h : TbOk22 t) : ∀ (l : List Int) (z z1 : List Int × Int), (∀ m ∈ l, 1 ≤ m ∧ m ≤ 3) → (0 < z.2 ∧ z.2 ≤ 279936000) → loopR (v__law_steps_f5 t) z l = .inr z1 → (0 < z1.2 ∧ z1.2 ≤ 279936000) ∧ z1.1.length ≤ z.1.length + l.length
  | [], z, z1, _, hz, e => by cases e; exact ⟨hz, Nat.le_refl _⟩
  | m :: l, z, z1, hm, hz, e => by
    rw [loopR] at e
    cases q : v__law_steps_f5 t z m with
    | inl r => rw [q] at e; cases e
    | inr z' =>
      rw [q] at e
      have m0 := hm m List.mem_cons_self
      have b := div_le h (many := m) (by omega) (by omega)
      have hz' : (0 < z'.2 ∧ z'.2 ≤ 279936000) ∧ z'.1.length = z.1.length + 1 := by
        unfold v__law_steps_f5 at q
        dsimp only at q
        split at q
        · cases q
        · rename_i c
          cases q
          have c : ¬ decide (m__law_divisor t m = 0) = true := c
          rw [decide_eq_true_eq] at c
          refine ⟨⟨?_, b.2⟩, by rw [List.length_append]; rfl⟩
          show 0 < m__law_divisor t m
          omega
      have := steps_st h l z' z1 (fun x hx => hm x (List.mem_cons_of_mem _ hx)) hz'.1 e
      refine ⟨this.1, ?_⟩
      rw [List.length_cons]
      omega
theorem mn22 {t : List (List Int)} (h : TbOk22 t) : (if m__law_wide t < ((t.length : Nat) : Int) then m__law_wide t else ((t.length : Nat) : Int)) ≤ 3 ∧ 0 ≤ (if m__law_wide t < ((t.length : Nat) : Int) then m__law_wide t else ((t.length : Nat) : Int)) := by
  obtain ⟨w0, w1, w2⟩ := wide22 h
  have := h.1
  split <;> omega
theorem lt_of_get' {α : Type} {l : List α} {i : Nat} {a : α} (h : l[i]? = some a) : i < l.length := by
  rw [List.getElem?_eq_some_iff] at h; exact h.1
def sp__law_steps : FS ({x : (List (List Int)) // TbOk22 x}) := { args := fun x => [.dat (rL (rL TL.rI)) x.1], res := fun x => .own false TL.rI (m__law_steps x.1) }
abbrev n__law_steps : List Str := ["table", "found", "ahead", "many", "here"]
theorem sc__law_steps : FnScope n__law_steps ["table"] (defScope s__law_steps) := ⟨rfl, rfl, rfl, by decide +kernel, rfl, by decide +kernel, by decide +kernel⟩
section
variable {P : Program} {w : World} {K : PySem.W.Frag} {mg : Str → Option Value} {base : Heap}
theorem fn__law_steps (T : Txs K mg) {f : Addr} {fd : FuncData} (Fn : Fun K "_law_steps" "_law_steps" s__law_steps f fd) : FnOk P w K mg base CX0 8 f fd ["table"] (sp__law_steps).sp := by
  refine fs_ok Fn sc__law_steps (fun _ => rfl) (fun _ => rfl) fun cdv_ A_ outer_ s_ H_ E_ x_ C_ D_ hr hret hnx => ?_
  have hu65 := hu65_of hr; have hu64 := hu64_of hr; have hu1 := hu1_of hr
  obtain ⟨table, hpre⟩ := x_
  refine gs_G (G' := [.dat (rL (rL TL.rI)) table, .any, .any, .any, .any]) rfl ?_
  have hq9 : TbOk22 table := hpre
  have hmn := mn22 hq9
  refine gs_set (i := 1) sc__law_steps.nd rfl (Or.inl rfl) (e := .own false TL.rI v__law_steps_found1) (x_isO (x_list (r := TL.rI) a_nil .nil) rfl) ?_
  refine gs_set (i := 2) sc__law_steps.nd rfl (Or.inl rfl) (e := .dat TL.rI v__law_steps_ahead2) (x_is x_int rfl) ?_
  refine gs_forR1 (S := ((List Int) × Int)) 3 (k_rng2 (n := (1 : Int)) (m := ((if (m__law_wide table) < ((table).length : Int) then (m__law_wide table) else ((table).length : Int)) + (1 : Int))) T.b_range (a_cons x_int (a_cons (x_add (x_min2 T.b_min (x_len T.b_len (rl_dat (x_var 0 rfl))) (x_call (ok__law_wide T) (hr.mono (by decide)) (table) (a_cons (x_var 0 rfl) a_nil) (.cons .nil) rfl)) x_int) a_nil)) (by omega)) (fun (z : ((List Int) × Int)) => [.dat (rL (rL TL.rI)) table, .own false TL.rI z.1, .dat TL.rI z.2, .any, .any]) (v__law_steps_found1, v__law_steps_ahead2) (v__law_steps_f5 table) (.keep (.keep (.keep (.drop (.drop .nil))))) (fun B1 ii many zz hi1 hz1 => ?_) (fun zr1 hzE1 => ?_) sc__law_steps.nd rfl (Or.inl rfl)
  · obtain ⟨found_s, ahead_s⟩ := zz
    refine gs_G (G' := [.dat (rL (rL TL.rI)) table, .own false TL.rI found_s, .dat TL.rI ahead_s, .dat TL.rI many, .any]) rfl ?_
    have hv := List.mem_of_getElem? hi1
    have hv' := mem_rng2 hv
    have hm9 : 1 ≤ many ∧ many ≤ 3 := by omega
    have hs9 := steps_st hq9 _ _ _ (fun m h9 => by have h8 := mem_rng2 (List.mem_of_mem_take h9); omega) ⟨by decide, by decide⟩ hz1
    have hi9 := lt_of_get' hi1
    have hd9 := div_le hq9 (many := many) (by omega) (by omega)
    refine gs_set (i := 4) sc__law_steps.nd rfl (Or.inl rfl) (e := .dat TL.rI (v__law_steps_here3 table many)) (x_is (x_call (ok__law_divisor T) (hr.mono (by decide)) ⟨(table, many), (by exact ⟨hq9, hm9⟩)⟩ (a_cons (x_var 0 rfl) (a_cons (x_var 3 rfl) a_nil)) (.cons (.cons .nil)) rfl) rfl) ?_
    refine gs_if (t_eq (x_var 4 rfl) x_int) (fun h1 => ?_) (fun h1 => ?_)
    · have _ := h1
      exact gs_ret (x_own 1 rfl) (hret _ _ ⟨congrArg (fun z => (Ent.own false TL.rI z : Ent)) (show found_s = m__law_steps table from Eq.symm ((outR_ret hz1 hi1 ((ifp h1))))), rfl, posted_any⟩)
    refine gs_nil ?_
    refine gs_expr (x_append 1 (x_div (x_var 4 rfl) (x_var 2 rfl) (by exact ⟨hs9.1.1, Int.lt_of_le_of_lt hs9.1.2 (by decide)⟩)) rfl rfl (by have h8 : found_s.length ≤ 0 + _ := hs9.2; rw [List.length_take, rng2_length] at h8; rw [rng2_length] at hi9; show _ < 16777216; omega)) ?_
    refine gs_set (i := 2) sc__law_steps.nd rfl (Or.inl rfl) (e := .dat TL.rI (v__law_steps_ahead4 table many)) (x_is (x_var 4 rfl) rfl) ?_
    exact gs_endR (Gs := fun (z : ((List Int) × Int)) => [.dat (rL (rL TL.rI)) table, .own false TL.rI z.1, .dat TL.rI z.2, .any, .any]) ((ifn h1)) (.keep (.keep (.keep (.drop (.drop .nil)))))
  refine gs_G (G' := [.dat (rL (rL TL.rI)) table, .own false TL.rI zr1.1, .dat TL.rI zr1.2, .any, .any]) rfl ?_
  exact gs_ret (x_own 1 rfl) (hret _ _ ⟨congrArg (fun z => (Ent.own false TL.rI z : Ent)) (show zr1.1 = m__law_steps table from Eq.symm ((outR_end hzE1))), rfl, posted_any⟩)
theorem ok__law_steps (T : Txs K mg) : Callee P w K mg base CX0 "_law_steps" ["table"] (sp__law_steps).sp 8 := by
  obtain ⟨f, fd, Fn, hm, hb⟩ := T.d__law_steps.ex
  exact ⟨f, fd, fn__law_steps T Fn, hm, Fn.kp, hb⟩
end
end My

namespace My
open PySem PySem.Spec PyProof.Rows L2 TL
def v__law_asked_told1  : Unit := ()
def m__law_asked (table : (List (List Int))) (prime : Int) : (Except Er Int) :=
  (caseE (m_rank_by table prime) (fun v => (Except.ok v)) (fun ev => (Except.error ev)))
abbrev sp__law_asked : FS ({x : (List (List Int)) × Int // m_is_table x.1 = true → PapOk x.1.length (m_width x.1) x.1}) := FS.orW (fun x => [.dat (rL (rL TL.rI)) x.1.1, .dat TL.rI x.1.2]) (fun x => (m__law_asked x.1.1 x.1.2)) (fun v => .dat TL.rI v)
abbrev n__law_asked : List Str := ["table", "prime", "told", "e"]
theorem sc__law_asked : FnScope n__law_asked ["table", "prime"] (defScope s__law_asked) := ⟨rfl, rfl, rfl, by decide +kernel, rfl, by decide +kernel, by decide +kernel⟩
section
variable {P : Program} {w : World} {K : PySem.W.Frag} {mg : Str → Option Value} {base : Heap}
theorem fn__law_asked (T : Txs K mg) {f : Addr} {fd : FuncData} (Fn : Fun K "_law_asked" "_law_asked" s__law_asked f fd) : FnOk P w K mg base CX0 9 f fd ["table", "prime"] (sp__law_asked).sp := by
  refine fs_ok Fn sc__law_asked (fun _ => rfl) (fun _ => rfl) fun cdv_ A_ outer_ s_ H_ E_ x_ C_ D_ hr hret hnx => ?_
  have hu65 := hu65_of hr; have hu64 := hu64_of hr; have hu1 := hu1_of hr
  obtain ⟨⟨table, prime⟩, hpre⟩ := x_
  refine gs_G (G' := [.dat (rL (rL TL.rI)) table, .dat TL.rI prime, .any, .any]) rfl ?_
  refine gs_set (i := 2) sc__law_asked.nd rfl (Or.inl rfl) (e := .dat TL.rN v__law_asked_told1) (x_is x_non rfl) ?_
  refine gs_tryW (i := 3) (j := 2) (k := 1) (evs := fun e => e ∈ ERS) (w__law_which T) rfl T.catch_SeamError (hr.mono (by decide)) takes0 sc__law_asked.nd rfl rfl (by decide) rfl (Or.inl rfl) (fun pn1 xe1 W1 tk1 hpo1 hW1 => ?_)
  refine gs_setX (i := 2) (ok_rank_by T) (hr.mono (by decide)) tk1 ⟨(table, prime), (by first | omega | (show _ ≤ 16777216; omega) | (show _ < 16777216; omega) | (simp only [Bool.and_eq_true, Bool.not_eq_true', Bool.not_eq_false', Bool.or_eq_false_iff, Bool.and_eq_false_iff, decide_eq_true_eq, decide_eq_false_iff_not] at *; omega) | decide +kernel | (show (0 : Int) < (10 : Int) ^ ((9 : Int)).toNat ∧ (10 : Int) ^ ((9 : Int)).toNat < 1000000000000000000000; decide))⟩ (a_cons (x_var 0 rfl) (a_cons (x_var 1 rfl) a_nil)) (.cons (.cons .nil)) sc__law_asked.nd rfl (Or.inl rfl) (fun v hm2 => ?_) (fun ev hm2 => hW1 ev _ (ers_rank_by ev hm2) rfl ?_)
  · have hm2 : (m_rank_by table prime) = .ok v := hm2
    refine gs_nilT ?_
    exact gs_ret (x_var 2 rfl) (hret _ _ (endW (show m__law_asked table prime = .ok v from ((caseE_ok hm2)))))
  have hm2 : (m_rank_by table prime) = .error ev := hm2
  refine gs_G (G' := [.dat (rL (rL TL.rI)) table, .dat TL.rI prime, .dat TL.rS ev.word, .any]) rfl ?_
  exact gs_ret (x_var 2 rfl) (hret _ _ (endWe (show m__law_asked table prime = .error ev from ((caseE_er hm2)))))
theorem ok__law_asked (T : Txs K mg) : Callee P w K mg base CX0 "_law_asked" ["table", "prime"] (sp__law_asked).sp 9 := by
  obtain ⟨f, fd, Fn, hm, hb⟩ := T.d__law_asked.ex
  exact ⟨f, fd, fn__law_asked T Fn, hm, Fn.kp, hb⟩
end
end My

namespace My
open PySem PySem.Spec PyProof.Rows L2 TL
def lfG (t : Tbl) (z : Option (Int × Int × Int)) (rc : Int × Int) : Option (Int × Int × Int) :=
  if ((decide ((0 : Int) < ((Int.natAbs (at2 t rc.1 rc.2) : Nat) : Int))) && ((z.isNone) || (decide (((Int.natAbs (at2 t rc.1 rc.2) : Nat) : Int) < (z.getD default).1)))) = true then some (((Int.natAbs (at2 t rc.1 rc.2) : Nat) : Int), rc.1, rc.2) else z
def lfPos (step n m : Int) : List (Int × Int) := (rng2 step n).flatMap fun r => (rng2 step m).map fun c => (r, c)
theorem least_fold (s : SS) (step : Int) : m_least_from s step = (lfPos step s.n s.m).foldl (lfG (s.tb .T)) none := by
  unfold m_least_from v_least_from_l7 lfPos
  rw [List.foldl_flatMap]
  have : v_least_from_f6 s step = fun acc x => List.foldl (lfG (s.tb .T)) acc (List.map (fun c => (x, c)) (rng2 step s.m)) := by
    funext z row
    unfold v_least_from_f6 v_least_from_l5
    rw [List.foldl_map]
    rfl
  rw [this]; rfl
abbrev lexL (a b : Int × Int) : Prop := a.1 < b.1 ∨ (a.1 = b.1 ∧ a.2 < b.2)
structure LF (t : Tbl) (l : List (Int × Int)) (z : Option (Int × Int × Int)) : Prop where
  no : z = none → ∀ q ∈ l, at2 t q.1 q.2 = 0
  so : ∀ h r c, z = some (h, r, c) → (r, c) ∈ l ∧ h = (Int.natAbs (at2 t r c) : Nat) ∧ 0 < h ∧ (∀ q ∈ l, at2 t q.1 q.2 ≠ 0 → h ≤ (Int.natAbs (at2 t q.1 q.2) : Nat)) ∧ ∀ q ∈ l, lexL q (r, c) → at2 t q.1 q.2 ≠ 0 → h < (Int.natAbs (at2 t q.1 q.2) : Nat)
theorem lf_step {t : Tbl} {l : List (Int × Int)} {z : Option (Int × Int × Int)} {q : Int × Int} (h : LF t l z) (hq : ∀ p ∈ l, lexL p q) : LF t (l ++ [q]) (lfG t z q) := by
  unfold lfG
  split
  · rename_i c
    rw [Bool.and_eq_true, Bool.or_eq_true, decide_eq_true_eq, decide_eq_true_eq] at c
    refine ⟨fun e => (by cases e), fun h' r' c' e => ?_⟩
    cases e
    refine ⟨List.mem_append_right _ (List.mem_singleton.mpr rfl), rfl, c.1, fun p hp np => ?_, fun p hp lp np => ?_⟩
    · rcases List.mem_append.mp hp with hp | hp
      · cases z with
        | none => exact absurd (h.no rfl p hp) np
        | some z =>
          obtain ⟨zh, zr, zc⟩ := z
          have k := (h.so zh zr zc rfl).2.2.2.1 p hp np
          rcases c.2 with c2 | c2
          · cases c2
          · have c2 : _ < zh := c2
            omega
      · rw [List.mem_singleton.mp hp]; exact Int.le_refl _
    · rcases List.mem_append.mp hp with hp | hp
      · cases z with
        | none => exact absurd (h.no rfl p hp) np
        | some z =>
          obtain ⟨zh, zr, zc⟩ := z
          have k := (h.so zh zr zc rfl).2.2.2.1 p hp np
          rcases c.2 with c2 | c2
          · cases c2
          · have c2 : _ < zh := c2
            omega
      · rw [List.mem_singleton.mp hp] at lp
        rcases lp with lp | lp
        · exact absurd lp (Int.lt_irrefl _)
        · exact absurd lp.2 (Int.lt_irrefl _)
  · rename_i c
    have c' : ¬ (0 < ((Int.natAbs (at2 t q.1 q.2) : Nat) : Int) ∧ (z.isNone = true ∨ ((Int.natAbs (at2 t q.1 q.2) : Nat) : Int) < (z.getD default).1)) := fun k => c (by
      rw [Bool.and_eq_true, Bool.or_eq_true, decide_eq_true_eq, decide_eq_true_eq]; exact k)
    refine ⟨fun e p hp => ?_, fun h' r' c0 e => ?_⟩
    · rcases List.mem_append.mp hp with hp | hp
      · exact h.no e p hp
      · rw [List.mem_singleton.mp hp]
        refine Classical.byContradiction fun nz => c' ⟨by omega, .inl (by rw [e]; rfl)⟩
    · obtain ⟨k1, k2, k3, k4, k5⟩ := h.so h' r' c0 e
      have nq : at2 t q.1 q.2 ≠ 0 → h' ≤ (Int.natAbs (at2 t q.1 q.2) : Nat) := fun nz => by
        refine Classical.byContradiction fun lt => c' ⟨by omega, .inr ?_⟩
        rw [e]; show _ < h'; omega
      refine ⟨List.mem_append_left _ k1, k2, k3, fun p hp np => ?_, fun p hp lp np => ?_⟩
      · rcases List.mem_append.mp hp with hp | hp
        · exact k4 p hp np
        · rw [List.mem_singleton.mp hp] at np ⊢; exact nq np
      · rcases List.mem_append.mp hp with hp | hp
        · exact k5 p hp lp np
        · rw [List.mem_singleton.mp hp] at lp
          have := hq _ k1
          unfold lexL at this lp
          dsimp only at this lp
          omega
theorem lf_all {t : Tbl} : ∀ (l done : List (Int × Int)) (z : Option (Int × Int × Int)), LF t done z → (done ++ l).Pairwise lexL → LF t (done ++ l) (l.foldl (lfG t) z)
  | [], done, z, h, _ => by rw [List.append_nil]; exact h
  | q :: l, done, z, h, pw => by
    have e : done ++ q :: l = (done ++ [q]) ++ l := by rw [List.append_assoc]; rfl
    rw [e] at pw ⊢
    refine lf_all l (done ++ [q]) _ (lf_step h fun p hp => ?_) pw
    exact (List.pairwise_append.mp (List.pairwise_append.mp pw).1).2.2 p hp q (List.mem_singleton.mpr rfl)
theorem rng2_sorted (a b : Int) : (rng2 a b).Pairwise (· < ·) := by
  unfold rng2
  refine List.pairwise_map.mpr (List.Pairwise.imp ?_ (List.pairwise_lt_range (n := (b - a).toNat)))
  intro i j h
  omega
theorem lfPos_sorted (step n m : Int) : (lfPos step n m).Pairwise lexL := by
  unfold lfPos
  have : ∀ l : List Int, l.Pairwise (· < ·) → (l.flatMap fun r => (rng2 step m).map fun c => (r, c)).Pairwise lexL := by
    intro l
    induction l with
    | nil => intro _; exact List.Pairwise.nil
    | cons r l ih =>
      intro pw
      obtain ⟨p1, p2⟩ := List.pairwise_cons.mp pw
      rw [List.flatMap_cons]
      refine List.pairwise_append.mpr ⟨List.pairwise_map.mpr (List.Pairwise.imp (fun h => .inr ⟨rfl, h⟩) (rng2_sorted _ _)), ih p2, fun x hx y hy => ?_⟩
      obtain ⟨c, _, rfl⟩ := List.mem_map.mp hx
      obtain ⟨r', hr', hy⟩ := List.mem_flatMap.mp hy
      obtain ⟨c', _, rfl⟩ := List.mem_map.mp hy
      exact .inl (p1 r' hr')
  exact this _ (rng2_sorted _ _)
theorem mem_lfPos {step n m : Int} {q : Int × Int} : q ∈ lfPos step n m ↔ (step ≤ q.1 ∧ q.1 < n) ∧ step ≤ q.2 ∧ q.2 < m := by
  unfold lfPos
  rw [List.mem_flatMap]
  constructor
  · rintro ⟨r, hr, hq⟩
    obtain ⟨c, hc, rfl⟩ := List.mem_map.mp hq
    exact ⟨mem_rng2 hr, mem_rng2 hc⟩
  · rintro ⟨h1, h2⟩
    exact ⟨q.1, mem_rng2_iff.mpr h1, List.mem_map.mpr ⟨q.2, mem_rng2_iff.mpr h2, rfl⟩⟩
theorem least_is (s : SS) (step : Int) : LF (s.tb .T) (lfPos step s.n s.m) (m_least_from s step) := by
  rw [least_fold]
  exact lf_all (lfPos step s.n s.m) [] none ⟨fun _ q hq => absurd hq List.not_mem_nil, fun h r c e => (by cases e)⟩ (lfPos_sorted _ _ _)
theorem clear_is {s : SS} {step : Int} : m_is_clear s step = true ↔ (∀ j, step < j → j < s.m → at2 (s.tb .T) step j = 0) ∧ ∀ i, step < i → i < s.n → at2 (s.tb .T) i step = 0 := by
  unfold m_is_clear
  rw [List.any_map, List.all_map]
  constructor
  · intro h
    split at h
    · cases h
    · rename_i c
      refine ⟨fun j h1 h2 => ?_, fun i h1 h2 => ?_⟩
      · refine Classical.byContradiction fun nz => c (List.any_eq_true.mpr ⟨j, mem_rng2_iff.mpr ⟨by omega, h2⟩, ?_⟩)
        show (!decide (at2 (s.tb .T) step j = 0)) = true
        rw [decide_eq_false nz]; rfl
      · have := List.all_eq_true.mp h i (mem_rng2_iff.mpr ⟨by omega, h2⟩)
        exact of_decide_eq_true this
  · rintro ⟨h1, h2⟩
    rw [if_neg]
    · refine List.all_eq_true.mpr fun i hi => ?_
      have := mem_rng2 hi
      exact decide_eq_true (h2 i (by omega) this.2)
    · intro c
      obtain ⟨j, hj, k⟩ := List.any_eq_true.mp c
      have := mem_rng2 hj
      have k : (!decide (at2 (s.tb .T) step j = 0)) = true := k
      rw [h1 j (by omega) this.2] at k
      cases k

abbrev Mx : Type := Int → Int → Int
def d2 (a : Mx) (i1 i2 j1 j2 : Int) : Int := a i1 j1 * a i2 j2 - a i1 j2 * a i2 j1
def d3 (a : Mx) (i1 i2 i3 j1 j2 j3 : Int) : Int := a i1 j1 * d2 a i2 i3 j2 j3 - a i1 j2 * d2 a i2 i3 j1 j3 + a i1 j3 * d2 a i2 i3 j1 j2
def sw (a b i : Int) : Int := if i = b then a else if i = a then b else i
structure Turn (k : Int) (a b : Mx) : Prop where
  nz : a k k ≠ 0
  kk : b k k = a k k
  rr : ∀ i, k < i → b i k = (a i k).fmod (a k k)
  ss : ∀ j, k < j → b k j = (a k j).fmod (a k k)
  re : ∀ i j, k < i → k < j → a k k * b i j = d2 a k i k j + b i k * b k j
theorem nab_add {x y : Int} {m n : Nat} (h1 : x.natAbs ≤ m) (h2 : y.natAbs ≤ n) : (x + y).natAbs ≤ m + n := by omega
theorem nab_sub {x y : Int} {m n : Nat} (h1 : x.natAbs ≤ m) (h2 : y.natAbs ≤ n) : (x - y).natAbs ≤ m + n := by omega
theorem nab_mul {x y : Int} {m n : Nat} (h1 : x.natAbs ≤ m) (h2 : y.natAbs ≤ n) : (x * y).natAbs ≤ m * n := by
  rw [Int.natAbs_mul]; exact Nat.mul_le_mul h1 h2
theorem nab_div {p x : Int} {n : Nat} (hp : p ≠ 0) (h : (p * x).natAbs ≤ p.natAbs * n) : x.natAbs ≤ n := by
  rw [Int.natAbs_mul] at h
  exact Nat.le_of_mul_le_mul_left h (by omega)
theorem fm_eq (x p : Int) : x = p * x.fdiv p + x.fmod p := (Int.mul_fdiv_add_fmod x p).symm
theorem fm_pos {x p : Int} (h : 0 < p) : 0 ≤ x.fmod p ∧ x.fmod p < p := ⟨Int.fmod_nonneg_of_pos x h, Int.fmod_lt_of_pos x h⟩
theorem fm_neg' (x p : Int) : (-x).fmod (-p) = -(x.fmod p) := by
  rw [Int.fmod_def, Int.fmod_def, Int.neg_fdiv_neg]
  rw [Int.neg_mul]; omega
theorem fm_neg {x p : Int} (h : p < 0) : p < x.fmod p ∧ x.fmod p ≤ 0 := by
  have := fm_pos (x := -x) (p := -p) (by omega)
  rw [fm_neg'] at this
  omega
theorem fm_abs {x p : Int} (h : p ≠ 0) : (x.fmod p).natAbs < p.natAbs := by
  by_cases c : 0 < p
  · have := fm_pos (x := x) c; omega
  · have := fm_neg (x := x) (p := p) (by omega); omega
theorem fm_half0 {x p : Int} (hp : 0 < p) (hx : p < x) : (x.fmod p = 0 → 2 * p ≤ x) ∧ 2 * x.fmod p < x := by
  have e := fm_eq x p
  have r := fm_pos (x := x) hp
  have q1 : 1 ≤ x.fdiv p := by
    refine Classical.byContradiction fun c => ?_
    have : p * x.fdiv p ≤ 0 := Int.mul_nonpos_of_nonneg_of_nonpos (by omega) (by omega)
    omega
  have e2 : p * x.fdiv p = p + p * (x.fdiv p - 1) := by rw [Int.mul_sub]; omega
  have n1 : 0 ≤ p * (x.fdiv p - 1) := Int.mul_nonneg (by omega) (by omega)
  refine ⟨fun h0 => ?_, by omega⟩
  have q2 : 2 ≤ x.fdiv p := by
    refine Classical.byContradiction fun c => ?_
    have : x.fdiv p = 1 := by omega
    rw [this] at e
    omega
  have e3 : p * x.fdiv p = 2 * p + p * (x.fdiv p - 2) := by rw [Int.mul_sub]; omega
  have n2 : 0 ≤ p * (x.fdiv p - 2) := Int.mul_nonneg (by omega) (by omega)
  omega
theorem fm_half {x p : Int} (hs : 0 < p ∧ p < x ∨ p < 0 ∧ x < p) : (x.fmod p = 0 → 2 * p.natAbs ≤ x.natAbs) ∧ 2 * (x.fmod p).natAbs < x.natAbs := by
  rcases hs with h | h
  · have k := fm_half0 h.1 h.2
    have r := fm_pos (x := x) h.1
    exact ⟨fun e => by have := k.1 e; omega, by omega⟩
  · have k := fm_half0 (x := -x) (p := -p) (by omega) (by omega)
    rw [fm_neg'] at k
    have r := fm_neg (x := x) h.1
    exact ⟨fun e => by have := k.1 (by omega); omega, by omega⟩
section
variable {k : Int} {a b : Mx}
theorem Turn.ra (T : Turn k a b) {i : Int} (h : k < i) : (b i k).natAbs < (a k k).natAbs := by
  rw [T.rr i h]; exact fm_abs T.nz
theorem Turn.sa (T : Turn k a b) {j : Int} (h : k < j) : (b k j).natAbs < (a k k).natAbs := by
  rw [T.ss j h]; exact fm_abs T.nz
theorem Turn.d (T : Turn k a b) {i j : Int} (hi : k < i) (hj : k < j) : d2 b k i k j = d2 a k i k j := by
  have := T.re i j hi hj
  have e : d2 b k i k j = b k k * b i j - b k j * b i k := rfl
  rw [e, T.kk, this, Int.mul_comm (b k j)]; omega
theorem d2_same1 {a : Mx} {i j1 j2 : Int} : d2 a i i j1 j2 = 0 := by unfold d2; grind
theorem d2_same2 {a : Mx} {i1 i2 j : Int} : d2 a i1 i2 j j = 0 := by unfold d2; grind
theorem d2_tr {a : Mx} {i1 i2 j1 j2 : Int} : d2 a i1 i2 j1 j2 = -d2 a i2 i1 j1 j2 := by unfold d2; grind
theorem d2_tc {a : Mx} {i1 i2 j1 j2 : Int} : d2 a i1 i2 j1 j2 = -d2 a i1 i2 j2 j1 := by unfold d2; grind
theorem sylv {a : Mx} {k i1 i2 j1 j2 : Int} : d2 a k i1 k j1 * d2 a k i2 k j2 - d2 a k i1 k j2 * d2 a k i2 k j1 = a k k * d3 a k i1 i2 k j1 j2 := by unfold d3 d2; grind
theorem Turn.d3 (T : Turn k a b) {i1 i2 j1 j2 : Int} (h1 : k < i1) (h2 : k < i2) (h3 : k < j1) (h4 : k < j2) : My.d3 b k i1 i2 k j1 j2 = My.d3 a k i1 i2 k j1 j2 := by
  have e1 := sylv (a := a) (k := k) (i1 := i1) (i2 := i2) (j1 := j1) (j2 := j2)
  have e2 := sylv (a := b) (k := k) (i1 := i1) (i2 := i2) (j1 := j1) (j2 := j2)
  rw [T.d h1 h3, T.d h2 h4, T.d h1 h4, T.d h2 h3, e1, T.kk] at e2
  exact (Int.eq_of_mul_eq_mul_left T.nz e2).symm
theorem Turn.row (T : Turn k a b) {i j1 j2 : Int} (hi : k < i) (h1 : k < j1) (h2 : k < j2) : a k k * d2 b k i j1 j2 = b k j1 * d2 a k i k j2 - b k j2 * d2 a k i k j1 := by
  have e1 := T.re i j1 hi h1
  have e2 := T.re i j2 hi h2
  have : d2 b k i j1 j2 = b k j1 * b i j2 - b k j2 * b i j1 := rfl
  rw [this]
  generalize d2 a k i k j2 = x at *
  generalize d2 a k i k j1 = y at *
  grind
theorem Turn.col (T : Turn k a b) {i1 i2 j : Int} (hj : k < j) (h1 : k < i1) (h2 : k < i2) : a k k * d2 b i1 i2 k j = b i1 k * d2 a k i2 k j - b i2 k * d2 a k i1 k j := by
  have e1 := T.re i1 j h1 hj
  have e2 := T.re i2 j h2 hj
  have : d2 b i1 i2 k j = b i1 k * b i2 j - b i1 j * b i2 k := rfl
  rw [this]
  generalize d2 a k i1 k j = x at *
  generalize d2 a k i2 k j = y at *
  grind
theorem Turn.in4 (T : Turn k a b) {i1 i2 j1 j2 : Int} (h1 : k < i1) (h2 : k < i2) (h3 : k < j1) (h4 : k < j2) :
    a k k * (a k k * d2 b i1 i2 j1 j2) = a k k * My.d3 a k i1 i2 k j1 j2 + (d2 a k i1 k j1 * (b i2 k * b k j2) + d2 a k i2 k j2 * (b i1 k * b k j1) - d2 a k i1 k j2 * (b i2 k * b k j1) - d2 a k i2 k j1 * (b i1 k * b k j2)) := by
  rw [← sylv]
  have e11 := T.re i1 j1 h1 h3
  have e12 := T.re i1 j2 h1 h4
  have e21 := T.re i2 j1 h2 h3
  have e22 := T.re i2 j2 h2 h4
  have : d2 b i1 i2 j1 j2 = b i1 j1 * b i2 j2 - b i1 j2 * b i2 j1 := rfl
  have e : a k k * (a k k * d2 b i1 i2 j1 j2) = (a k k * b i1 j1) * (a k k * b i2 j2) - (a k k * b i1 j2) * (a k k * b i2 j1) := by rw [this]; grind
  rw [e, e11, e12, e21, e22]
  generalize d2 a k i1 k j1 = x11
  generalize d2 a k i1 k j2 = x12
  generalize d2 a k i2 k j1 = x21
  generalize d2 a k i2 k j2 = x22
  generalize b i1 k = r1
  generalize b i2 k = r2
  generalize b k j1 = s1
  generalize b k j2 = s2
  grind
end

def tf (s : SS) (i j : Int) : Int := if (0 ≤ i ∧ i < s.n) ∧ 0 ≤ j ∧ j < s.m then at2 (s.tb .T) i j else 0
theorem tf_in {s : SS} {i j : Int} (i0 : 0 ≤ i) (i1 : i < s.n) (j0 : 0 ≤ j) (j1 : j < s.m) : tf s i j = at2 (s.tb .T) i j := if_pos ⟨⟨i0, i1⟩, j0, j1⟩
theorem tf_out {s : SS} {i j : Int} (h : ¬ ((0 ≤ i ∧ i < s.n) ∧ 0 ≤ j ∧ j < s.m)) : tf s i j = 0 := if_neg h
theorem tf_swR {s : SS} {a b i j : Int} (h : Shape s) (a0 : 0 ≤ a) (a1 : a < s.n) (b0 : 0 ≤ b) (b1 : b < s.n) : tf (m_rows_changed s a b) i j = tf s (sw a b i) j := by
  by_cases c : (0 ≤ i ∧ i < s.n) ∧ 0 ≤ j ∧ j < s.m
  · have e : tf (m_rows_changed s a b) i j = at2 (swA a b (s.tb .T)) i j := tf_in (s := m_rows_changed s a b) c.1.1 c.1.2 c.2.1 c.2.2
    rw [e, at2_swR h.T a0 a1 b0 b1 c.1.1 c.1.2]
    unfold sw
    split
    · exact (tf_in a0 a1 c.2.1 c.2.2).symm
    · split
      · exact (tf_in b0 b1 c.2.1 c.2.2).symm
      · exact (tf_in c.1.1 c.1.2 c.2.1 c.2.2).symm
  · have e : tf (m_rows_changed s a b) i j = 0 := tf_out (s := m_rows_changed s a b) c
    rw [e]
    refine (tf_out fun d => c ⟨?_, d.2⟩).symm
    unfold sw at d
    split at d
    · omega
    · split at d
      · omega
      · exact d.1
theorem tf_swC {s : SS} {a b i j : Int} (h : Shape s) (a0 : 0 ≤ a) (a1 : a < s.m) (b0 : 0 ≤ b) (b1 : b < s.m) : tf (m_columns_changed s a b) i j = tf s i (sw a b j) := by
  by_cases c : (0 ≤ i ∧ i < s.n) ∧ 0 ≤ j ∧ j < s.m
  · have e : tf (m_columns_changed s a b) i j = at2 ((s.tb .T).map (swA a b)) i j := tf_in (s := m_columns_changed s a b) c.1.1 c.1.2 c.2.1 c.2.2
    rw [e, at2_swC h.T a0 a1 b0 b1 c.1.1 c.1.2 c.2.1 c.2.2]
    unfold sw
    split
    · exact (tf_in c.1.1 c.1.2 a0 a1).symm
    · split
      · exact (tf_in c.1.1 c.1.2 b0 b1).symm
      · exact (tf_in c.1.1 c.1.2 c.2.1 c.2.2).symm
  · have e : tf (m_columns_changed s a b) i j = 0 := tf_out (s := m_columns_changed s a b) c
    rw [e]
    refine (tf_out fun d => c ⟨d.1, ?_⟩).symm
    unfold sw at d
    split at d
    · omega
    · split at d
      · omega
      · exact d.2
theorem tf_rowTo {s : SS} {a b i j : Int} (h : Shape s) (a0 : 0 ≤ a) (a1 : a < s.n) (b0 : 0 ≤ b) (b1 : b < s.n) (q : Int) : tf (m_row_to s a q b) i j = if i = b then tf s b j + q * tf s a j else tf s i j := by
  by_cases c : (0 ≤ i ∧ i < s.n) ∧ 0 ≤ j ∧ j < s.m
  · have e : tf (m_row_to s a q b) i j = at2 (rAdd (s.tb .T) a q b) i j := tf_in (s := m_row_to s a q b) c.1.1 c.1.2 c.2.1 c.2.2
    rw [e, at2_rAdd h.T a0 a1 b0 b1 c.1.1 c.1.2 c.2.1 c.2.2, tf_in b0 b1 c.2.1 c.2.2, tf_in a0 a1 c.2.1 c.2.2, tf_in c.1.1 c.1.2 c.2.1 c.2.2]
  · have e : tf (m_row_to s a q b) i j = 0 := tf_out (s := m_row_to s a q b) c
    rw [e, tf_out c]
    split
    · rename_i e
      subst e
      rw [tf_out c, tf_out (s := s) (i := a) (j := j) (fun d => c ⟨⟨b0, b1⟩, d.2⟩), Int.mul_zero]; rfl
    · rfl
theorem tf_cleared {s : SS} {k i j : Int} (h : Shape s) (s0 : 0 ≤ k) (s1 : k < s.n) (s2 : k < s.m) :
    tf (m_cleared s k) i j =
      (if k < i then tf s i j - Int.fdiv (tf s i k) (tf s k k) * tf s k j else tf s i j) -
      (if k < j then Int.fdiv (tf s k j) (tf s k k) * (if k < i then tf s i k - Int.fdiv (tf s i k) (tf s k k) * tf s k k else tf s i k) else 0) := by
  have nm : (m_cleared s k).n = s.n ∧ (m_cleared s k).m = s.m := by
    have a := fold_nm (f := clR k) (fun _ _ => clR_nm) (rng2 (k + 1) s.n) s
    have b := fold_nm (f := clC k) (fun _ _ => clC_nm) (rng2 (k + 1) s.m) ((rng2 (k + 1) s.n).foldl (clR k) s)
    exact ⟨b.1.trans a.1, b.2.trans a.2⟩
  by_cases c : (0 ≤ i ∧ i < s.n) ∧ 0 ≤ j ∧ j < s.m
  · rw [tf_in (s := m_cleared s k) c.1.1 (by rw [nm.1]; exact c.1.2) c.2.1 (by rw [nm.2]; exact c.2.2), cleared_at h s0 s1 s2 c.1.1 c.1.2 c.2.1 c.2.2,
      tf_in c.1.1 c.1.2 c.2.1 c.2.2, tf_in c.1.1 c.1.2 s0 s2, tf_in s0 s1 c.2.1 c.2.2, tf_in s0 s1 s0 s2]
  · rw [tf_out (s := m_cleared s k) (by rw [nm.1, nm.2]; exact c), tf_out c]
    by_cases ci : 0 ≤ i ∧ i < s.n
    · have cj : ¬ (0 ≤ j ∧ j < s.m) := fun d => c ⟨ci, d⟩
      rw [tf_out (s := s) (i := k) (j := j) (fun d => cj d.2), Int.zero_fdiv]
      simp
    · rw [tf_out (s := s) (i := i) (j := k) (fun d => ci d.1), Int.zero_fdiv]
      simp

structure MB (k : Int) (a : Mx) (M1 M2 M3 : Nat) : Prop where
  m1 : ∀ i j, k ≤ i → k ≤ j → (a i j).natAbs ≤ M1
  m2 : ∀ i1 i2 j1 j2, k ≤ i1 → k ≤ i2 → k ≤ j1 → k ≤ j2 → (d2 a i1 i2 j1 j2).natAbs ≤ M2
  m3 : ∀ i1 i2 j1 j2, k < i1 → k < i2 → k < j1 → k < j2 → (d3 a k i1 i2 k j1 j2).natAbs ≤ M3
theorem MB.mono {k : Int} {a : Mx} {M1 M2 M3 N1 N2 N3 : Nat} (h : MB k a M1 M2 M3) (h1 : M1 ≤ N1) (h2 : M2 ≤ N2) (h3 : M3 ≤ N3) : MB k a N1 N2 N3 :=
  ⟨fun i j a b => Nat.le_trans (h.m1 i j a b) h1, fun i1 i2 j1 j2 a b c d => Nat.le_trans (h.m2 i1 i2 j1 j2 a b c d) h2, fun i1 i2 j1 j2 a b c d => Nat.le_trans (h.m3 i1 i2 j1 j2 a b c d) h3⟩
theorem nab_two {x y u v : Int} {m n : Nat} (h1 : x.natAbs ≤ m) (h2 : y.natAbs ≤ n) (h3 : u.natAbs ≤ m) (h4 : v.natAbs ≤ n) : (x * y - u * v).natAbs ≤ m * n + m * n := nab_sub (nab_mul h1 h2) (nab_mul h3 h4)
section
variable {k : Int} {a b : Mx} {M1 M2 M3 : Nat}
theorem Turn.b1 (T : Turn k a b) (h : MB k a M1 M2 M3) {i j : Int} (hi : k ≤ i) (hj : k ≤ j) : (b i j).natAbs ≤ M1 + M2 := by
  have p1 : 1 ≤ (a k k).natAbs := by have := T.nz; omega
  have h1 := h.m1 k k (Int.le_refl _) (Int.le_refl _)
  by_cases ci : i = k
  · by_cases cj : j = k
    · rw [ci, cj, T.kk]; omega
    · rw [ci]; have := T.sa (j := j) (by omega); omega
  · by_cases cj : j = k
    · rw [cj]; have := T.ra (i := i) (by omega); omega
    · have ci : k < i := by omega
      have cj : k < j := by omega
      have r := T.ra ci
      have s := T.sa cj
      refine nab_div T.nz ?_
      rw [T.re i j ci cj]
      refine Nat.le_trans (nab_add (h.m2 k i k j (Int.le_refl _) hi (Int.le_refl _) hj) (nab_mul (Nat.le_of_lt r) (Nat.le_of_lt s))) ?_
      rw [Nat.mul_add]
      have e1 : M2 ≤ (a k k).natAbs * M2 := Nat.le_mul_of_pos_left _ p1
      have e2 : (a k k).natAbs * (a k k).natAbs ≤ (a k k).natAbs * M1 := Nat.mul_le_mul_left _ h1
      omega
theorem Turn.b2' (T : Turn k a b) (h : MB k a M1 M2 M3) {i1 i2 j1 j2 : Int} (h1 : k ≤ i1) (h2 : k ≤ i2) (h3 : k ≤ j1) (h4 : k ≤ j2) (d1 : i1 < i2) (d2' : j1 < j2) : (d2 b i1 i2 j1 j2).natAbs ≤ 4 * M2 + M3 := by
  have p1 : 1 ≤ (a k k).natAbs := by have := T.nz; omega
  by_cases ci : k = i1
  · subst ci
    by_cases cj : k = j1
    · subst cj
      rw [T.d d1 d2']
      have := h.m2 k i2 k j2 h1 h2 h3 h4
      omega
    · have c3 : k < j1 := by omega
      have c4 : k < j2 := by omega
      have e := T.row d1 c3 c4
      have s1 := Nat.le_of_lt (T.sa c3)
      have s2 := Nat.le_of_lt (T.sa c4)
      have : (d2 b k i2 j1 j2).natAbs ≤ 2 * M2 := by
        refine nab_div T.nz ?_
        rw [e]
        refine Nat.le_trans (nab_two s1 (h.m2 k i2 k j2 h1 h2 h1 h4) s2 (h.m2 k i2 k j1 h1 h2 h1 h3)) ?_
        rw [← Nat.mul_add]
        exact Nat.mul_le_mul_left _ (by omega)
      omega
  · have c1 : k < i1 := by omega
    have c2 : k < i2 := by omega
    by_cases cj : k = j1
    · subst cj
      have e := T.col d2' c1 c2
      have s1 := Nat.le_of_lt (T.ra c1)
      have s2 := Nat.le_of_lt (T.ra c2)
      have : (d2 b i1 i2 k j2).natAbs ≤ 2 * M2 := by
        refine nab_div T.nz ?_
        rw [e]
        refine Nat.le_trans (nab_two s1 (h.m2 k i2 k j2 h3 h2 h3 h4) s2 (h.m2 k i1 k j2 h3 h1 h3 h4)) ?_
        rw [← Nat.mul_add]
        exact Nat.mul_le_mul_left _ (by omega)
      omega
    · have c3 : k < j1 := by omega
      have c4 : k < j2 := by omega
      have e := T.in4 c1 c2 c3 c4
      have r1 := Nat.le_of_lt (T.ra c1)
      have r2 := Nat.le_of_lt (T.ra c2)
      have s1 := Nat.le_of_lt (T.sa c3)
      have s2 := Nat.le_of_lt (T.sa c4)
      have k0 := Int.le_refl k
      refine nab_div T.nz (nab_div T.nz ?_)
      rw [e]
      have q : ∀ {x y : Int} {i j : Int}, k ≤ i → k ≤ j → x.natAbs ≤ (a k k).natAbs → y.natAbs ≤ (a k k).natAbs → (d2 a k i k j * (x * y)).natAbs ≤ M2 * ((a k k).natAbs * (a k k).natAbs) := fun hi hj hx hy => nab_mul (h.m2 k _ k _ k0 hi k0 hj) (nab_mul hx hy)
      refine Nat.le_trans (nab_add (nab_mul (Nat.le_refl _) (h.m3 i1 i2 j1 j2 c1 c2 c3 c4)) (nab_sub (nab_sub (nab_add (q h1 h3 r2 s2) (q h2 h4 r1 s1)) (q h1 h4 r2 s1)) (q h2 h3 r1 s2))) ?_
      generalize (a k k).natAbs = p at p1
      have e1 : p * M3 ≤ p * (p * M3) := Nat.mul_le_mul_left _ (Nat.le_mul_of_pos_left _ p1)
      have e2 : p * (p * (4 * M2 + M3)) = M2 * (p * p) + M2 * (p * p) + M2 * (p * p) + M2 * (p * p) + p * (p * M3) := by grind
      omega
theorem Turn.b2 (T : Turn k a b) (h : MB k a M1 M2 M3) {i1 i2 j1 j2 : Int} (h1 : k ≤ i1) (h2 : k ≤ i2) (h3 : k ≤ j1) (h4 : k ≤ j2) : (d2 b i1 i2 j1 j2).natAbs ≤ 4 * M2 + M3 := by
  rcases Int.lt_trichotomy i1 i2 with c | c | c
  · rcases Int.lt_trichotomy j1 j2 with d | d | d
    · exact T.b2' h h1 h2 h3 h4 c d
    · rw [d, d2_same2]; exact Nat.zero_le _
    · rw [d2_tc, Int.natAbs_neg]; exact T.b2' h h1 h2 h4 h3 c d
  · rw [c, d2_same1]; exact Nat.zero_le _
  · rcases Int.lt_trichotomy j1 j2 with d | d | d
    · rw [d2_tr, Int.natAbs_neg]; exact T.b2' h h2 h1 h3 h4 c d
    · rw [d, d2_same2]; exact Nat.zero_le _
    · rw [d2_tr, d2_tc, Int.neg_neg]; exact T.b2' h h2 h1 h4 h3 c d
theorem Turn.mb (T : Turn k a b) (h : MB k a M1 M2 M3) : MB k b (M1 + M2) (4 * M2 + M3) M3 :=
  ⟨fun i j => T.b1 h, fun i1 i2 j1 j2 => T.b2 h, fun i1 i2 j1 j2 h1 h2 h3 h4 => by rw [T.d3 h1 h2 h3 h4]; exact h.m3 i1 i2 j1 j2 h1 h2 h3 h4⟩
end
def swp (k r c : Int) (a : Mx) : Mx := fun i j => a (sw k r i) (sw k c j)
theorem sw_ge {k r i : Int} (h : k ≤ r) (hi : k ≤ i) : k ≤ sw k r i := by unfold sw; split <;> (try split) <;> omega
def ZN (N k : Int) (a : Mx) : Prop := ∀ i j, k ≤ i → k ≤ j → (k + N ≤ i ∨ k + N ≤ j) → a i j = 0
abbrev Z3 : Int → Mx → Prop := ZN 3
def Dt (k : Int) (a : Mx) : Int := d3 a k (k + 1) (k + 2) k (k + 1) (k + 2)
theorem Z3.m3 {k : Int} {a : Mx} (z : Z3 k a) {i1 i2 j1 j2 : Int} (h1 : k < i1) (h2 : k < i2) (h3 : k < j1) (h4 : k < j2) : (d3 a k i1 i2 k j1 j2).natAbs ≤ (Dt k a).natAbs := by
  have R1 : ∀ {i1 i2 j1 j2 : Int}, d3 a k i1 i2 k j1 j2 = -d3 a k i2 i1 k j1 j2 := by intros; unfold d3 d2; grind
  have C1 : ∀ {i1 i2 j1 j2 : Int}, d3 a k i1 i2 k j1 j2 = -d3 a k i1 i2 k j2 j1 := by intros; unfold d3 d2; grind
  have R0 : ∀ {i j1 j2 : Int}, d3 a k i i k j1 j2 = 0 := by intros; unfold d3 d2; grind
  have C0 : ∀ {i1 i2 j : Int}, d3 a k i1 i2 k j j = 0 := by intros; unfold d3 d2; grind
  have RZ : ∀ {i1 i2 j1 j2 : Int}, k < j1 → k < j2 → k + 3 ≤ i2 → d3 a k i1 i2 k j1 j2 = 0 := by
    intro i1 i2 j1 j2 h3 h4 h
    unfold d3 d2
    rw [z i2 k (by omega) (Int.le_refl _) (.inl h), z i2 j1 (by omega) (Int.le_of_lt h3) (.inl h), z i2 j2 (by omega) (Int.le_of_lt h4) (.inl h)]; grind
  have CZ : ∀ {i1 i2 j1 j2 : Int}, k < i1 → k < i2 → k + 3 ≤ j2 → d3 a k i1 i2 k j1 j2 = 0 := by
    intro i1 i2 j1 j2 h3 h4 h
    unfold d3 d2
    rw [z k j2 (Int.le_refl _) (by omega) (.inr h), z i1 j2 (by omega) (by omega) (.inr h), z i2 j2 (by omega) (by omega) (.inr h)]; grind
  have L2 : ∀ {j1 j2 : Int}, k < j1 → j1 < j2 → (d3 a k (k + 1) (k + 2) k j1 j2).natAbs ≤ (Dt k a).natAbs := by
    intro j1 j2 h1 h2
    by_cases c : k + 3 ≤ j2
    · rw [CZ (by omega) (by omega) c]; exact Nat.zero_le _
    · have e1 : j1 = k + 1 := by omega
      have e2 : j2 = k + 2 := by omega
      rw [e1, e2]; exact Nat.le_refl _
  have L1 : ∀ {i1 i2 j1 j2 : Int}, k < i1 → i1 < i2 → k < j1 → k < j2 → (d3 a k i1 i2 k j1 j2).natAbs ≤ (Dt k a).natAbs := by
    intro i1 i2 j1 j2 h1 h2 h3 h4
    by_cases c : k + 3 ≤ i2
    · rw [RZ h3 h4 c]; exact Nat.zero_le _
    · have e1 : i1 = k + 1 := by omega
      have e2 : i2 = k + 2 := by omega
      rw [e1, e2]
      rcases Int.lt_trichotomy j1 j2 with d | d | d
      · exact L2 h3 d
      · rw [d, C0]; exact Nat.zero_le _
      · rw [C1, Int.natAbs_neg]; exact L2 h4 d
  rcases Int.lt_trichotomy i1 i2 with c | c | c
  · exact L1 h1 c h3 h4
  · rw [c, R0]; exact Nat.zero_le _
  · rw [R1, Int.natAbs_neg]; exact L1 h2 c h3 h4
theorem MB.swp {k r c : Int} {a : Mx} {M1 M2 M3 : Nat} (h : MB k a M1 M2 M3) (hr : k ≤ r) (hc : k ≤ c) (h3 : ∀ i1 i2 j1 j2, k < i1 → k < i2 → k < j1 → k < j2 → (d3 (My.swp k r c a) k i1 i2 k j1 j2).natAbs ≤ M3) : MB k (My.swp k r c a) M1 M2 M3 :=
  ⟨fun i j hi hj => h.m1 _ _ (sw_ge hr hi) (sw_ge hc hj), fun i1 i2 j1 j2 a b c' d => h.m2 _ _ _ _ (sw_ge hr a) (sw_ge hr b) (sw_ge hc c') (sw_ge hc d), h3⟩
theorem ZN.swp {N k r c : Int} {a : Mx} (z : ZN N k a) (hr : k ≤ r) (hr2 : r < k + N) (hc : k ≤ c) (hc2 : c < k + N) : ZN N k (My.swp k r c a) := fun i j hi hj h => by
  refine z _ _ (sw_ge hr hi) (sw_ge hc hj) ?_
  unfold sw
  rcases h with h | h
  · left; rw [if_neg (by omega), if_neg (by omega)]; exact h
  · right; rw [if_neg (by omega), if_neg (by omega)]; exact h
theorem ZN.turn {N k : Int} {a b : Mx} (z : ZN N k a) (T : Turn k a b) (hN : 0 < N) : ZN N k b := fun i j hi hj h => by
  by_cases ci : i = k
  · subst ci
    rw [T.ss j (by omega), z i j hi hj h, Int.zero_fmod]
  · by_cases cj : j = k
    · subst cj
      rw [T.rr i (by omega), z i j hi hj h, Int.zero_fmod]
    · have e := T.re i j (by omega) (by omega)
      have : a k k * b i j = 0 := by
        rw [e]
        unfold d2
        rcases h with h | h
        · rw [z i j hi hj (.inl h), z i k hi (Int.le_refl _) (.inl h), T.rr i (by omega), z i k hi (Int.le_refl _) (.inl h), Int.zero_fmod]; simp
        · rw [z i j hi hj (.inr h), z k j (Int.le_refl _) hj (.inr h), T.ss j (by omega), z k j (Int.le_refl _) hj (.inr h), Int.zero_fmod]; simp
      exact (Int.mul_eq_zero.mp this).resolve_left T.nz
theorem Dt_swp {k r c : Int} {a : Mx} (hr : k ≤ r) (hr2 : r < k + 3) (hc : k ≤ c) (hc2 : c < k + 3) : (Dt k (swp k r c a)).natAbs = (Dt k a).natAbs := by
  have : Dt k (swp k r c a) = Dt k a ∨ Dt k (swp k r c a) = -Dt k a := by
    unfold Dt d3 d2 swp
    have s0 : ∀ r, sw k r k = r := fun r => by unfold sw; split <;> (try split) <;> omega
    have e1 : r = k ∨ r = k + 1 ∨ r = k + 2 := by omega
    have e2 : c = k ∨ c = k + 1 ∨ c = k + 2 := by omega
    have a0 : sw k k (k + 1) = k + 1 := by unfold sw; rw [if_neg (by omega), if_neg (by omega)]
    have a1 : sw k k (k + 2) = k + 2 := by unfold sw; rw [if_neg (by omega), if_neg (by omega)]
    have b0 : sw k (k + 1) (k + 1) = k := by unfold sw; rw [if_pos rfl]
    have b1 : sw k (k + 1) (k + 2) = k + 2 := by unfold sw; rw [if_neg (by omega), if_neg (by omega)]
    have c0 : sw k (k + 2) (k + 1) = k + 1 := by unfold sw; rw [if_neg (by omega), if_neg (by omega)]
    have c1 : sw k (k + 2) (k + 2) = k := by unfold sw; rw [if_pos rfl]
    rcases e1 with e1 | e1 | e1 <;> rcases e2 with e2 | e2 | e2 <;> subst e1 <;> subst e2 <;> rw [s0] <;> simp only [s0, a0, a1, b0, b1, c0, c1] <;> grind
  rcases this with h | h <;> rw [h]
  exact Int.natAbs_neg _

abbrev lexP (i j r c : Int) : Prop := i < r ∨ (i = r ∧ j < c)
structure Piv (k : Int) (a : Mx) (r c : Int) : Prop where
  r0 : k ≤ r
  c0 : k ≤ c
  nz : a r c ≠ 0
  le : ∀ i j, k ≤ i → k ≤ j → a i j ≠ 0 → (a r c).natAbs ≤ (a i j).natAbs
  lt : ∀ i j, k ≤ i → k ≤ j → lexP i j r c → a i j ≠ 0 → (a r c).natAbs < (a i j).natAbs
def Clr (k : Int) (b : Mx) : Prop := (∀ j, k < j → b k j = 0) ∧ ∀ i, k < i → b i k = 0
def addR (k u : Int) (a : Mx) : Mx := fun i j => if i = k then a k j + a u j else a i j
inductive It (k : Int) (a b : Mx) : Prop where
  | one (r c : Int) (pv : Piv k a r c) (T : Turn k (swp k r c a) b) (nc : ¬ Clr k b)
  | two (r c : Int) (b0 : Mx) (u : Int) (pv : Piv k a r c) (T0 : Turn k (swp k r c a) b0) (cl : Clr k b0) (hu : k < u) (ud : ∃ j, k < j ∧ (b0 u j).fmod (b0 k k) ≠ 0) (T : Turn k (addR k u b0) b)
theorem sw_k {k r : Int} : sw k r k = r := by unfold sw; split <;> (try split) <;> omega
theorem swp_kk {k r c : Int} {a : Mx} : swp k r c a k k = a r c := by unfold swp; rw [sw_k, sw_k]
theorem Clr.addR_kk {k u : Int} {b : Mx} (c : Clr k b) (hu : k < u) : addR k u b k k = b k k := by
  unfold addR; rw [if_pos rfl, c.2 u hu]; omega
theorem addR_ne {k u i j : Int} {b : Mx} (h : i ≠ k) : addR k u b i j = b i j := if_neg h
theorem Clr.addR_k {k u j : Int} {b : Mx} (c : Clr k b) (hj : k < j) : addR k u b k j = b u j := by
  unfold addR; rw [if_pos rfl, c.1 j hj]; omega
structure Lst (k : Int) (a : Mx) (l : Nat) : Prop where
  at_ : ∃ i j, k ≤ i ∧ k ≤ j ∧ a i j ≠ 0 ∧ (a i j).natAbs = l
  le : ∀ i j, k ≤ i → k ≤ j → a i j ≠ 0 → l ≤ (a i j).natAbs
theorem Piv.lst {k r c : Int} {a : Mx} (h : Piv k a r c) : Lst k a (a r c).natAbs := ⟨⟨r, c, h.r0, h.c0, h.nz, rfl⟩, h.le⟩
theorem Lst.same {k : Int} {a : Mx} {l m : Nat} (h : Lst k a l) (h2 : Lst k a m) : l = m := by
  obtain ⟨i, j, a1, a2, a3, a4⟩ := h.at_
  obtain ⟨i', j', b1, b2, b3, b4⟩ := h2.at_
  have := h.le i' j' b1 b2 b3
  have := h2.le i j a1 a2 a3
  omega
theorem It.kk {k : Int} {a b : Mx} (h : It k a b) : Lst k a (b k k).natAbs ∧ b k k ≠ 0 := by
  cases h with
  | one r c pv T nc => rw [T.kk, swp_kk]; exact ⟨pv.lst, pv.nz⟩
  | two r c b0 u pv T0 cl hu ud T => rw [T.kk, cl.addR_kk hu, T0.kk, swp_kk]; exact ⟨pv.lst, pv.nz⟩
theorem It.rr {k : Int} {a b : Mx} (h : It k a b) {i : Int} (hi : k < i) : ∃ x : Int, b i k = x.fmod (b k k) := by
  cases h with
  | one r c pv T nc => exact ⟨_, by rw [T.kk]; exact T.rr i hi⟩
  | two r c b0 u pv T0 cl hu ud T => exact ⟨_, by rw [T.kk]; exact T.rr i hi⟩
theorem It.ss {k : Int} {a b : Mx} (h : It k a b) {j : Int} (hj : k < j) : ∃ x : Int, b k j = x.fmod (b k k) := by
  cases h with
  | one r c pv T nc => exact ⟨_, by rw [T.kk]; exact T.ss j hj⟩
  | two r c b0 u pv T0 cl hu ud T => exact ⟨_, by rw [T.kk]; exact T.ss j hj⟩
theorem It.nclr {k : Int} {a b : Mx} (h : It k a b) : ¬ Clr k b := by
  cases h with
  | one r c pv T nc => exact nc
  | two r c b0 u pv T0 cl hu ud T =>
    intro q
    obtain ⟨j, hj, hd⟩ := ud
    have e := T.ss j hj
    rw [cl.addR_kk hu, cl.addR_k hj] at e
    rw [q.1 j hj] at e
    exact hd e.symm
theorem It.low {k : Int} {a b : Mx} (h : It k a b) : ∃ i j, k ≤ i ∧ k ≤ j ∧ b i j ≠ 0 ∧ (b i j).natAbs < (b k k).natAbs := by
  have nc := h.nclr
  have nz := h.kk.2
  refine Classical.byContradiction fun q => nc ⟨fun j hj => Classical.byContradiction fun nz2 => q ⟨k, j, Int.le_refl _, Int.le_of_lt hj, nz2, ?_⟩, fun i hi => Classical.byContradiction fun nz2 => q ⟨i, k, Int.le_of_lt hi, Int.le_refl _, nz2, ?_⟩⟩
  · obtain ⟨x, e⟩ := h.ss hj
    rw [e]; exact fm_abs nz
  · obtain ⟨x, e⟩ := h.rr hi
    rw [e]; exact fm_abs nz
theorem It.fall {k : Int} {a b : Mx} (h : It k a b) {l m : Nat} (ha : Lst k a l) (hb : Lst k b m) : m < l := by
  have e := ha.same h.kk.1
  obtain ⟨i, j, h1, h2, h3, h4⟩ := h.low
  have := hb.le i j h1 h2 h3
  omega
theorem fm_sign {x p : Int} (hp : p ≠ 0) (nz : x.fmod p ≠ 0) : 0 < x.fmod p ∧ x.fmod p < p ∨ x.fmod p < 0 ∧ p < x.fmod p := by
  by_cases c : 0 < p
  · have := fm_pos (x := x) c; omega
  · have := fm_neg (x := x) (p := p) (by omega); omega
section
variable {k : Int} {a b : Mx} {M1 M2 M3 : Nat}
theorem Z3.mbswp (z : Z3 k a) (h : MB k a M1 M2 M3) (hD : (Dt k a).natAbs ≤ M3) {r c : Int} (hr : k ≤ r) (hr2 : r < k + 3) (hc : k ≤ c) (hc2 : c < k + 3) : MB k (swp k r c a) M1 M2 M3 ∧ (Dt k (swp k r c a)).natAbs ≤ M3 := by
  have e := Dt_swp (a := a) hr hr2 hc hc2
  refine ⟨h.swp hr hc fun i1 i2 j1 j2 h1 h2 h3 h4 => ?_, by omega⟩
  have := Z3.m3 (z.swp hr hr2 hc hc2) h1 h2 h3 h4
  omega
theorem Clr.mbadd {u : Int} (cl : Clr k a) (hu : k < u) (z : Z3 k a) (hu2 : u < k + 3) (h : MB k a M1 M2 M3) (hD : (Dt k a).natAbs ≤ M3) : MB k (addR k u a) M1 M2 M3 ∧ (Dt k (addR k u a)).natAbs ≤ M3 ∧ Z3 k (addR k u a) := by
  have zz : Z3 k (addR k u a) := fun i j hi hj hh => by
    unfold addR
    split
    · rename_i e
      subst e
      rcases hh with hh | hh
      · omega
      · rw [z i j hi hj (.inr hh), z u j (by omega) hj (.inr hh)]; rfl
    · exact z i j hi hj hh
  have DD : (Dt k (addR k u a)).natAbs ≤ M3 := by
    have e : Dt k (addR k u a) = Dt k a := by
      unfold Dt d3 d2 addR
      rw [if_pos rfl, if_pos rfl, if_pos rfl, if_neg (by omega), if_neg (by omega), if_neg (by omega), if_neg (by omega), if_neg (by omega), if_neg (by omega)]
      have e : u = k + 1 ∨ u = k + 2 := by omega
      rcases e with e | e <;> subst e <;> grind
    rw [e]; exact hD
  have q : ∀ {i j1 j2 : Int}, k ≤ i → k ≤ j1 → k ≤ j2 → i ≠ k → (d2 (addR k u a) k i j1 j2).natAbs ≤ M2 := by
    intro i j1 j2 hi h1 h2 ne
    have k0 := Int.le_refl k
    unfold d2
    rw [addR_ne ne, addR_ne ne]
    by_cases c1 : j1 = k
    · by_cases c2 : j2 = k
      · subst c1; subst c2
        rw [show ∀ x y : Int, x * y - x * y = 0 from fun x y => by omega]; exact Nat.zero_le _
      · subst c1
        rw [cl.addR_kk hu, cl.addR_k (by omega), cl.2 i (by omega)]
        have := h.m2 j1 i j1 j2 k0 hi k0 h2
        unfold d2 at this
        rw [cl.2 i (by omega)] at this
        simpa using this
    · by_cases c2 : j2 = k
      · subst c2
        rw [cl.addR_kk hu, cl.addR_k (by omega), cl.2 i (by omega)]
        have := h.m2 j2 i j1 j2 k0 hi h1 k0
        unfold d2 at this
        rw [cl.2 i (by omega)] at this
        simpa using this
      · rw [cl.addR_k (by omega), cl.addR_k (by omega)]
        exact h.m2 u i j1 j2 (by omega) hi h1 h2
  refine ⟨⟨fun i j hi hj => ?_, fun i1 i2 j1 j2 h1 h2 h3 h4 => ?_, fun i1 i2 j1 j2 h1 h2 h3 h4 => Nat.le_trans (Z3.m3 zz h1 h2 h3 h4) DD⟩, DD, zz⟩
  · by_cases c : i = k
    · subst c
      by_cases c2 : j = i
      · subst c2; rw [cl.addR_kk hu]; exact h.m1 _ _ hi hj
      · rw [cl.addR_k (by omega)]; exact h.m1 _ _ (by omega) hj
    · rw [addR_ne c]; exact h.m1 _ _ hi hj
  · by_cases c1 : i1 = k
    · subst c1
      by_cases c2 : i2 = i1
      · subst c2; rw [d2_same1]; exact Nat.zero_le _
      · exact q h2 h3 h4 c2
    · by_cases c2 : i2 = k
      · subst c2
        rw [d2_tr, Int.natAbs_neg]; exact q h1 h3 h4 c1
      · unfold d2
        rw [addR_ne c1, addR_ne c1, addR_ne c2, addR_ne c2]
        exact h.m2 i1 i2 j1 j2 h1 h2 h3 h4
theorem Turn.Dt (T : Turn k a b) : My.Dt k b = My.Dt k a := T.d3 (by omega) (by omega) (by omega) (by omega)
theorem ZN.piv {N r c : Int} (z : ZN N k a) (pv : Piv k a r c) : r < k + N ∧ c < k + N := by
  refine ⟨Classical.byContradiction fun h => pv.nz (z r c pv.r0 pv.c0 (.inl (by omega))), Classical.byContradiction fun h => pv.nz (z r c pv.r0 pv.c0 (.inr (by omega)))⟩
theorem ZN.und {N u : Int} (z : ZN N k a) (hu : k < u) (ud : ∃ j, k < j ∧ (a u j).fmod (a k k) ≠ 0) : u < k + N := by
  obtain ⟨j, hj, nz⟩ := ud
  refine Classical.byContradiction fun h => nz ?_
  rw [z u j (by omega) (by omega) (.inl (by omega)), Int.zero_fmod]
theorem It.mb3 (h : It k a b) (z : Z3 k a) (hm : MB k a M1 M2 M3) (hD : (My.Dt k a).natAbs ≤ M3) : MB k b (M1 + 5 * M2 + M3) (16 * M2 + 5 * M3) M3 ∧ (My.Dt k b).natAbs ≤ M3 ∧ Z3 k b := by
  cases h with
  | one r c pv T nc =>
    obtain ⟨p1, p2⟩ := z.piv pv
    obtain ⟨s1, s2⟩ := Z3.mbswp z hm hD pv.r0 p1 pv.c0 p2
    exact ⟨(T.mb s1).mono (by omega) (by omega) (Nat.le_refl _), by rw [T.Dt]; exact s2, (z.swp pv.r0 p1 pv.c0 p2).turn T (by omega)⟩
  | two r c b0 u pv T0 cl hu ud T =>
    obtain ⟨p1, p2⟩ := z.piv pv
    obtain ⟨s1, s2⟩ := Z3.mbswp z hm hD pv.r0 p1 pv.c0 p2
    have z0 := (z.swp pv.r0 p1 pv.c0 p2).turn T0 (by omega)
    obtain ⟨t1, t2, t3⟩ := cl.mbadd hu z0 (z0.und hu ud) (T0.mb s1) (by rw [T0.Dt]; exact s2)
    exact ⟨(T.mb t1).mono (by omega) (by omega) (Nat.le_refl _), by rw [T.Dt]; exact t2, t3.turn T (by omega)⟩
end

section
variable {k : Int} {a b : Mx} {M1 D : Nat}
abbrev Z2 : Int → Mx → Prop := ZN 2
def D2 (k : Int) (a : Mx) : Int := d2 a k (k + 1) k (k + 1)
structure B2 (k : Int) (a : Mx) (M D : Nat) : Prop where
  z : Z2 k a
  m : ∀ i j, k ≤ i → k ≤ j → (a i j).natAbs ≤ M
  d : (D2 k a).natAbs ≤ D
theorem Z2.m2 (z : Z2 k a) {i1 i2 j1 j2 : Int} (h1 : k ≤ i1) (h2 : k ≤ i2) (h3 : k ≤ j1) (h4 : k ≤ j2) : (d2 a i1 i2 j1 j2).natAbs ≤ (D2 k a).natAbs := by
  have RZ : ∀ {i1 i2 j1 j2 : Int}, k ≤ i2 → k ≤ j1 → k ≤ j2 → k + 2 ≤ i2 → d2 a i1 i2 j1 j2 = 0 := by
    intro i1 i2 j1 j2 h2 h3 h4 h
    unfold d2
    rw [z i2 j1 h2 h3 (.inl h), z i2 j2 h2 h4 (.inl h)]; simp
  have CZ : ∀ {i1 i2 j1 j2 : Int}, k ≤ i1 → k ≤ i2 → k ≤ j2 → k + 2 ≤ j2 → d2 a i1 i2 j1 j2 = 0 := by
    intro i1 i2 j1 j2 h2 h3 h4 h
    unfold d2
    rw [z i1 j2 h2 h4 (.inr h), z i2 j2 h3 h4 (.inr h)]; simp
  have L2 : ∀ {j1 j2 : Int}, k ≤ j1 → j1 < j2 → (d2 a k (k + 1) j1 j2).natAbs ≤ (D2 k a).natAbs := by
    intro j1 j2 h1 h2
    by_cases c : k + 2 ≤ j2
    · rw [CZ (by omega) (by omega) (by omega) c]; exact Nat.zero_le _
    · have e1 : j1 = k := by omega
      have e2 : j2 = k + 1 := by omega
      rw [e1, e2]; exact Nat.le_refl _
  have L1 : ∀ {i1 i2 j1 j2 : Int}, k ≤ i1 → i1 < i2 → k ≤ j1 → k ≤ j2 → (d2 a i1 i2 j1 j2).natAbs ≤ (D2 k a).natAbs := by
    intro i1 i2 j1 j2 h1 h2 h3 h4
    by_cases c : k + 2 ≤ i2
    · rw [RZ (by omega) h3 h4 c]; exact Nat.zero_le _
    · have e1 : i1 = k := by omega
      have e2 : i2 = k + 1 := by omega
      rw [e1, e2]
      rcases Int.lt_trichotomy j1 j2 with d | d | d
      · exact L2 h3 d
      · rw [d, d2_same2]; exact Nat.zero_le _
      · rw [d2_tc, Int.natAbs_neg]; exact L2 h4 d
  rcases Int.lt_trichotomy i1 i2 with c | c | c
  · exact L1 h1 c h3 h4
  · rw [c, d2_same1]; exact Nat.zero_le _
  · rw [d2_tr, Int.natAbs_neg]; exact L1 h2 c h3 h4
theorem Z2.mb (h : B2 k a M1 D) : MB k a M1 D (M1 * D + M1 * D + M1 * D) := by
  have m2 : ∀ i1 i2 j1 j2, k ≤ i1 → k ≤ i2 → k ≤ j1 → k ≤ j2 → (d2 a i1 i2 j1 j2).natAbs ≤ D := fun i1 i2 j1 j2 h1 h2 h3 h4 => Nat.le_trans (Z2.m2 h.z h1 h2 h3 h4) h.d
  refine ⟨h.m, m2, fun i1 i2 j1 j2 h1 h2 h3 h4 => ?_⟩
  have k0 := Int.le_refl k
  unfold d3
  have a1 := Int.le_of_lt h1
  have a2 := Int.le_of_lt h2
  have a3 := Int.le_of_lt h3
  have a4 := Int.le_of_lt h4
  exact nab_add (nab_sub (nab_mul (h.m _ _ k0 k0) (m2 _ _ _ _ a1 a2 a3 a4)) (nab_mul (h.m _ _ k0 a3) (m2 _ _ _ _ a1 a2 k0 a4))) (nab_mul (h.m _ _ k0 a4) (m2 _ _ _ _ a1 a2 k0 a3))
theorem B2.turn (h : My.B2 k a M1 D) (T : Turn k a b) : B2 k b (M1 + D) D :=
  ⟨h.z.turn T (by omega), fun i j hi hj => T.b1 (Z2.mb h) hi hj, by unfold D2; rw [T.d (by omega) (by omega)]; exact h.d⟩
theorem B2.swp {r c : Int} (h : My.B2 k a M1 D) (pv : Piv k a r c) : B2 k (My.swp k r c a) M1 D := by
  obtain ⟨p1, p2⟩ := h.z.piv pv
  refine ⟨h.z.swp pv.r0 p1 pv.c0 p2, fun i j hi hj => h.m _ _ (sw_ge pv.r0 hi) (sw_ge pv.c0 hj), ?_⟩
  exact Nat.le_trans (Z2.m2 h.z (sw_ge pv.r0 (Int.le_refl _)) (sw_ge pv.r0 (by omega)) (sw_ge pv.c0 (Int.le_refl _)) (sw_ge pv.c0 (by omega))) h.d
theorem Clr.m2add {u : Int} (cl : Clr k a) (hu : k < u) (hu2 : u < k + 2) (h : B2 k a M1 D) : B2 k (addR k u a) M1 D := by
  have eu : u = k + 1 := by omega
  subst eu
  refine ⟨fun i j hi hj hh => ?_, fun i j hi hj => ?_, ?_⟩
  · unfold addR
    split
    · rename_i e
      subst e
      rcases hh with hh | hh
      · omega
      · rw [h.z i j hi hj (.inr hh), h.z (i + 1) j (by omega) hj (.inr hh)]; rfl
    · exact h.z i j hi hj hh
  · by_cases c : i = k
    · subst c
      by_cases c2 : j = i
      · subst c2; rw [cl.addR_kk hu]; exact h.m _ _ hi hj
      · rw [cl.addR_k (by omega)]; exact h.m _ _ (by omega) hj
    · rw [addR_ne c]; exact h.m _ _ hi hj
  · have e : D2 k (addR k (k + 1) a) = D2 k a := by
      unfold D2 d2 addR
      rw [if_pos rfl, if_pos rfl, if_neg (by omega), if_neg (by omega)]
      grind
    rw [e]; exact h.d
theorem It.m2 (h : It k a b) (hm : B2 k a M1 D) : B2 k b (M1 + 2 * D) D := by
  cases h with
  | one r c pv T nc =>
    have := (hm.swp pv).turn T
    exact ⟨this.z, fun i j hi hj => Nat.le_trans (this.m i j hi hj) (by omega), this.d⟩
  | two r c b0 u pv T0 cl hu ud T =>
    have t0 := (hm.swp pv).turn T0
    have := (cl.m2add hu (t0.z.und hu ud) t0).turn T
    exact ⟨this.z, fun i j hi hj => Nat.le_trans (this.m i j hi hj) (by omega), this.d⟩
theorem It.not1 (h : It k a b) (z : ZN 1 k a) : False := by
  cases h with
  | one r c pv T nc =>
    obtain ⟨p1, p2⟩ := z.piv pv
    have zb := (z.swp pv.r0 p1 pv.c0 p2).turn T (by omega)
    exact nc ⟨fun j hj => zb k j (Int.le_refl _) (by omega) (.inr (by omega)), fun i hi => zb i k (by omega) (Int.le_refl _) (.inl (by omega))⟩
  | two r c b0 u pv T0 cl hu ud T =>
    obtain ⟨p1, p2⟩ := z.piv pv
    have zb := (z.swp pv.r0 p1 pv.c0 p2).turn T0 (by omega)
    have := zb.und hu ud
    omega
abbrev sgn (x p : Int) : Prop := 0 < x ∧ x < p ∨ x < 0 ∧ p < x
structure Post (k : Int) (a : Mx) : Prop where
  nz : a k k ≠ 0
  r : ∀ i, k < i → a i k ≠ 0 → sgn (a i k) (a k k)
  s : ∀ j, k < j → a k j ≠ 0 → sgn (a k j) (a k k)
  nc : ¬ Clr k a
theorem It.post (h : It k a b) : Post k b := ⟨h.kk.2, fun i hi nz => by
    obtain ⟨x, e⟩ := h.rr hi
    rw [e] at nz ⊢; exact fm_sign h.kk.2 nz, fun i hi nz => by
    obtain ⟨x, e⟩ := h.ss hi
    rw [e] at nz ⊢; exact fm_sign h.kk.2 nz, h.nclr⟩
theorem Piv.same {r c r' c' : Int} (h : Piv k a r c) (h2 : Piv k a r' c') : r = r' ∧ c = c' := by
  have e1 := h.le r' c' h2.r0 h2.c0 h2.nz
  have e2 := h2.le r c h.r0 h.c0 h.nz
  have f1 : ¬ lexP r' c' r c := fun l => by have := h.lt r' c' h2.r0 h2.c0 l h2.nz; omega
  have f2 : ¬ lexP r c r' c' := fun l => by have := h2.lt r c h.r0 h.c0 l h.nz; omega
  unfold lexP at f1 f2
  omega
theorem sw_r {k r : Int} : sw k r r = k := if_pos rfl
theorem It.half_row {c : Int} (h : It k a b) {l : Nat} (hl : Lst k b l) (hc : k < c) (pv : Piv k a k c) (hs : sgn (a k c) (a k k)) : 2 * l ≤ (a k k).natAbs := by
  have hf := fm_half (x := a k k) (p := a k c) hs
  have k0 := Int.le_refl k
  have e1 : swp k k c a k c = a k k := by unfold swp; rw [sw_k, sw_r]
  have e2 : swp k k c a k k = a k c := by unfold swp; rw [sw_k, sw_k]
  cases h with
  | one r' c' pv' T nc =>
    obtain ⟨q1, q2⟩ := pv.same pv'
    subst q1; subst q2
    have e := T.ss c hc
    rw [e1, e2] at e
    by_cases z : (a k k).fmod (a k c) = 0
    · have := hl.le k k k0 k0 (by rw [T.kk, e2]; exact pv.nz)
      rw [T.kk, e2] at this
      have := hf.1 z
      omega
    · have := hl.le k c k0 (by omega) (by rw [e]; exact z)
      rw [e] at this
      omega
  | two r' c' b0 u pv' T0 cl hu ud T =>
    obtain ⟨q1, q2⟩ := pv.same pv'
    subst q1; subst q2
    have e := T0.ss c hc
    rw [e1, e2, cl.1 c hc] at e
    have g : b k k = a k c := by rw [T.kk, cl.addR_kk hu, T0.kk, e2]
    have := hl.le k k k0 k0 (by rw [g]; exact pv.nz)
    rw [g] at this
    have := hf.1 e.symm
    omega
theorem It.half_col {r : Int} (h : It k a b) {l : Nat} (hl : Lst k b l) (hr : k < r) (pv : Piv k a r k) (hs : sgn (a r k) (a k k)) : 2 * l ≤ (a k k).natAbs := by
  have hf := fm_half (x := a k k) (p := a r k) hs
  have k0 := Int.le_refl k
  have e1 : swp k r k a r k = a k k := by unfold swp; rw [sw_k, sw_r]
  have e2 : swp k r k a k k = a r k := by unfold swp; rw [sw_k, sw_k]
  cases h with
  | one r' c' pv' T nc =>
    obtain ⟨q1, q2⟩ := pv.same pv'
    subst q1; subst q2
    have e := T.rr r hr
    rw [e1, e2] at e
    by_cases z : (a k k).fmod (a r k) = 0
    · have := hl.le k k k0 k0 (by rw [T.kk, e2]; exact pv.nz)
      rw [T.kk, e2] at this
      have := hf.1 z
      omega
    · have := hl.le r k (by omega) k0 (by rw [e]; exact z)
      rw [e] at this
      omega
  | two r' c' b0 u pv' T0 cl hu ud T =>
    obtain ⟨q1, q2⟩ := pv.same pv'
    subst q1; subst q2
    have e := T0.rr r hr
    rw [e1, e2, cl.2 r hr] at e
    have g : b k k = a r k := by rw [T.kk, cl.addR_kk hu, T0.kk, e2]
    have := hl.le k k k0 k0 (by rw [g]; exact pv.nz)
    rw [g] at this
    have := hf.1 e.symm
    omega
def ng (a : Mx) : Mx := fun i j => -a i j
theorem Piv.ng {r c : Int} (h : Piv k a r c) : Piv k (ng a) r c := ⟨h.r0, h.c0, by have := h.nz; unfold My.ng; omega, fun i j hi hj nz => by
    have := h.le i j hi hj (by unfold My.ng at nz; omega)
    unfold My.ng; omega, fun i j hi hj l nz => by
    have := h.lt i j hi hj l (by unfold My.ng at nz; omega)
    unfold My.ng; omega⟩
theorem Turn.ng (T : Turn k a b) : Turn k (ng a) (ng b) := ⟨by have := T.nz; unfold My.ng; omega, by have := T.kk; unfold My.ng; omega, fun i hi => by
    unfold My.ng; rw [T.rr i hi, fm_neg'], fun j hj => by
    unfold My.ng; rw [T.ss j hj, fm_neg'], fun i j hi hj => by
    have := T.re i j hi hj
    unfold My.ng d2
    unfold d2 at this
    grind⟩
theorem Clr.ng : Clr k (ng a) ↔ Clr k a := by
  unfold Clr My.ng
  constructor
  · rintro ⟨h1, h2⟩
    exact ⟨fun j hj => by have := h1 j hj; omega, fun j hj => by have := h2 j hj; omega⟩
  · rintro ⟨h1, h2⟩
    exact ⟨fun j hj => by have := h1 j hj; omega, fun j hj => by have := h2 j hj; omega⟩
theorem It.ng (h : It k a b) : It k (ng a) (ng b) := by
  cases h with
  | one r c pv T nc => exact .one r c pv.ng T.ng (fun h => nc (Clr.ng.mp h))
  | two r c b0 u pv T0 cl hu ud T =>
    refine .two r c (My.ng b0) u pv.ng T0.ng (Clr.ng.mpr cl) hu ?_ ?_
    · obtain ⟨j, hj, nz⟩ := ud
      refine ⟨j, hj, ?_⟩
      unfold My.ng
      rw [fm_neg']; omega
    · have e : addR k u (My.ng b0) = My.ng (addR k u b0) := by
        funext i j
        show (if i = k then -b0 k j + -b0 u j else -b0 i j) = -(if i = k then b0 k j + b0 u j else b0 i j)
        split <;> omega
      rw [e]; exact T.ng
theorem Lst.ng {l : Nat} (h : Lst k a l) : Lst k (ng a) l := by
  obtain ⟨i, j, h1, h2, h3, h4⟩ := h.at_
  refine ⟨⟨i, j, h1, h2, by unfold My.ng; omega, by unfold My.ng; omega⟩, fun i j hi hj nz => ?_⟩
  have := h.le i j hi hj (by unfold My.ng at nz; omega)
  unfold My.ng; omega
theorem Post.ng (h : Post k a) : Post k (ng a) := by
  refine ⟨by have := h.nz; unfold My.ng; omega, fun i hi nz => ?_, fun i hi nz => ?_, fun c => h.nc (Clr.ng.mp c)⟩
  · have := h.r i hi (by unfold My.ng at nz; omega)
    unfold My.ng; omega
  · have := h.s i hi (by unfold My.ng at nz; omega)
    unfold My.ng; omega
theorem fm_two {x d : Int} (h1 : d < x) (h2 : x < 2 * d) : x.fmod (-d) = x - 2 * d := by
  have e := fm_neg' (-x) d
  rw [Int.neg_neg] at e
  have e2 : (-x).fmod d = 2 * d - x := by
    rw [Int.fmod_eq_emod_of_nonneg _ (by omega), ← Int.add_mul_emod_self_left (-x) d 2, Int.emod_eq_of_lt (by omega) (by omega)]; omega
  omega
theorem half_opp (z : Z2 k a) (ps : Post k a) (h : It k a b) {c : Mx} (h2 : It k b c) {l : Nat} (hl : Lst k c l) (pv : Piv k a (k + 1) (k + 1)) (p0 : 0 < a k k) (d0 : a (k + 1) (k + 1) < 0) : 2 * l ≤ (a k k).natAbs := by
  have k0 := Int.le_refl k
  have e1 : swp k (k + 1) (k + 1) a k k = a (k + 1) (k + 1) := by unfold swp; rw [sw_k]
  have e2 : swp k (k + 1) (k + 1) a k (k + 1) = a (k + 1) k := by unfold swp; rw [sw_k, sw_r]
  have e3 : swp k (k + 1) (k + 1) a (k + 1) k = a k (k + 1) := by unfold swp; rw [sw_k, sw_r]
  have e4 : swp k (k + 1) (k + 1) a (k + 1) (k + 1) = a k k := by unfold swp; rw [sw_r]
  have lt1 := pv.lt k (k + 1) k0 (by omega) (.inl (by omega))
  have lt2 := pv.lt (k + 1) k (by omega) k0 (.inr ⟨rfl, by omega⟩)
  have s1 := ps.s (k + 1) (by omega)
  have s2 := ps.r (k + 1) (by omega)
  have nc : a k (k + 1) ≠ 0 ∨ a (k + 1) k ≠ 0 := by
    refine Classical.byContradiction fun q => ps.nc ⟨fun j hj => ?_, fun i hi => ?_⟩
    · by_cases e : j = k + 1
      · subst e; omega
      · exact z k j k0 (by omega) (.inr (by omega))
    · by_cases e : i = k + 1
      · subst e; omega
      · exact z i k (by omega) k0 (.inl (by omega))
  have lc := h2.fall h2.kk.1 hl
  have bk : b k k = a (k + 1) (k + 1) := by
    cases h with
    | one r' c' pv' T _ => obtain ⟨q1, q2⟩ := pv.same pv'; subst q1; subst q2; rw [T.kk, e1]
    | two r' c' b0 u pv' T0 cl hu ud T => obtain ⟨q1, q2⟩ := pv.same pv'; subst q1; subst q2; rw [T.kk, cl.addR_kk hu, T0.kk, e1]
  have lb := h2.kk.1.le k k k0 k0 h.kk.2
  rw [bk] at lb
  by_cases small : 2 * (a (k + 1) (k + 1)).natAbs ≤ (a k k).natAbs
  · omega
  -- the least is more than half
  have R : ∀ {x : Int}, x ≠ 0 → sgn x (a k k) → (a (k + 1) (k + 1)).natAbs < x.natAbs → x.fmod (a (k + 1) (k + 1)) = x + 2 * a (k + 1) (k + 1) ∧ x.fmod (a (k + 1) (k + 1)) ≠ 0 := fun {x} nz sg lt => by
    have := fm_two (x := x) (d := -a (k + 1) (k + 1)) (by omega) (by omega)
    rw [Int.neg_neg] at this
    rw [this]; omega
  cases h with
  | two r' c' b0 u pv' T0 cl hu ud T =>
    obtain ⟨q1, q2⟩ := pv.same pv'; subst q1; subst q2
    exfalso
    have f1 := T0.ss (k + 1) (by omega)
    have f2 := T0.rr (k + 1) (by omega)
    rw [e2, e1, cl.1 _ (by omega)] at f1
    rw [e3, e1, cl.2 _ (by omega)] at f2
    rcases nc with n | n
    · exact (R n (s1 n) (lt1 n)).2 f2.symm
    · exact (R n (s2 n) (lt2 n)).2 f1.symm
  | one r' c' pv' T ncb =>
    obtain ⟨q1, q2⟩ := pv.same pv'; subst q1; subst q2
    have pb : Post k b := (It.one _ _ pv T ncb).post
    have f1 := T.ss (k + 1) (by omega)
    have f2 := T.rr (k + 1) (by omega)
    rw [e2, e1] at f1
    rw [e3, e1] at f2
    have f3 := T.re (k + 1) (k + 1) (by omega) (by omega)
    unfold d2 at f3
    rw [e1, e2, e3, e4] at f3
    have big : a k k ≤ b (k + 1) (k + 1) := by
      by_cases n1 : a k (k + 1) = 0
      · rw [n1, Int.zero_fmod] at f2
        rw [n1, f2] at f3
        have : a (k + 1) (k + 1) * b (k + 1) (k + 1) = a (k + 1) (k + 1) * a k k := by rw [f3]; simp
        have := Int.eq_of_mul_eq_mul_left pv.nz this
        omega
      · by_cases n2 : a (k + 1) k = 0
        · rw [n2, Int.zero_fmod] at f1
          rw [n2, f1] at f3
          have : a (k + 1) (k + 1) * b (k + 1) (k + 1) = a (k + 1) (k + 1) * a k k := by rw [f3]; simp
          have := Int.eq_of_mul_eq_mul_left pv.nz this
          omega
        · rw [(R n1 (s1 n1) (lt1 n1)).1] at f2
          rw [(R n2 (s2 n2) (lt2 n2)).1] at f1
          have e : b (k + 1) (k + 1) = a k k + 2 * (a k (k + 1) + a (k + 1) k) + 4 * a (k + 1) (k + 1) := by
            refine Int.eq_of_mul_eq_mul_left pv.nz ?_
            rw [f3, f1, f2]
            grind
          have := s1 n1
          have := s2 n2
          have := lt1 n1
          have := lt2 n2
          omega
    have zb : Z2 k b := (z.swp pv.r0 (by omega) pv.c0 (by omega)).turn T (by omega)
    have key : ∀ r c, Piv k b r c → (r = k ∧ c = k + 1) ∨ (r = k + 1 ∧ c = k) := fun r c pv2 => by
      obtain ⟨q1, q2⟩ := zb.piv pv2
      have q3 := pv2.r0
      have q4 := pv2.c0
      obtain ⟨i, j, g1, g2, g3, g4⟩ := (It.one _ _ pv T ncb).low
      have g5 := pv2.le i j g1 g2 g3
      have n1 : ¬ (r = k ∧ c = k) := fun ⟨x, y⟩ => by subst x; subst y; omega
      have n2 : ¬ (r = k + 1 ∧ c = k + 1) := fun ⟨x, y⟩ => by subst x; subst y; omega
      omega
    have fin : ∀ r c', Piv k b r c' → 2 * l ≤ (a (k + 1) (k + 1)).natAbs := fun r c' pv2 => by
      rw [← bk]
      rcases key r c' pv2 with ⟨x, y⟩ | ⟨x, y⟩
      · subst x; subst y
        exact h2.half_row hl (by omega) pv2 (pb.s _ (by omega) pv2.nz)
      · subst x; subst y
        exact h2.half_col hl (by omega) pv2 (pb.r _ (by omega) pv2.nz)
    have : 2 * l ≤ (a (k + 1) (k + 1)).natAbs := by
      cases h2 with
      | one r'' c'' pv2 _ _ => exact fin _ _ pv2
      | two r'' c'' _ _ pv2 _ _ _ _ _ => exact fin _ _ pv2
    omega
theorem half_in (z : Z2 k a) (ps : Post k a) (h : It k a b) {l : Nat} (hl : Lst k b l) (pv : Piv k a (k + 1) (k + 1)) (hs : 0 < a k k ∧ 0 < a (k + 1) (k + 1) ∨ a k k < 0 ∧ a (k + 1) (k + 1) < 0) : 2 * l ≤ (a k k).natAbs := by
  have k0 := Int.le_refl k
  have e1 : swp k (k + 1) (k + 1) a k k = a (k + 1) (k + 1) := by unfold swp; rw [sw_k]
  have e2 : swp k (k + 1) (k + 1) a k (k + 1) = a (k + 1) k := by unfold swp; rw [sw_k, sw_r]
  have e3 : swp k (k + 1) (k + 1) a (k + 1) k = a k (k + 1) := by unfold swp; rw [sw_k, sw_r]
  have lt1 := pv.lt k (k + 1) k0 (by omega) (.inl (by omega))
  have lt2 := pv.lt (k + 1) k (by omega) k0 (.inr ⟨rfl, by omega⟩)
  have s1 := ps.s (k + 1) (by omega)
  have s2 := ps.r (k + 1) (by omega)
  have nc : a k (k + 1) ≠ 0 ∨ a (k + 1) k ≠ 0 := by
    refine Classical.byContradiction fun q => ps.nc ⟨fun j hj => ?_, fun i hi => ?_⟩
    · by_cases e : j = k + 1
      · subst e; omega
      · exact z k j k0 (by omega) (.inr (by omega))
    · by_cases e : i = k + 1
      · subst e; omega
      · exact z i k (by omega) k0 (.inl (by omega))
  have H : ∀ {x : Int}, x ≠ 0 → sgn x (a k k) → (a (k + 1) (k + 1)).natAbs < x.natAbs → (x.fmod (a (k + 1) (k + 1)) = 0 → 2 * (a (k + 1) (k + 1)).natAbs ≤ (a k k).natAbs) ∧ 2 * (x.fmod (a (k + 1) (k + 1))).natAbs < (a k k).natAbs := fun {x} nz sg lt => by
    have := fm_half (x := x) (p := a (k + 1) (k + 1)) (by omega)
    exact ⟨fun e => by have := this.1 e; omega, by omega⟩
  cases h with
  | one r' c' pv' T ncb =>
    obtain ⟨q1, q2⟩ := pv.same pv'; subst q1; subst q2
    have f1 := T.ss (k + 1) (by omega)
    have f2 := T.rr (k + 1) (by omega)
    have f0 := T.kk
    rw [e1] at f0
    rw [e2, e1] at f1
    rw [e3, e1] at f2
    have l0 := hl.le k k k0 k0 (by rw [f0]; exact pv.nz)
    rw [f0] at l0
    rcases nc with n | n
    · obtain ⟨g1, g2⟩ := H n (s1 n) (lt1 n)
      rw [← f2] at g1 g2
      by_cases y : b (k + 1) k = 0
      · have := g1 y; omega
      · have := hl.le _ _ (by omega) k0 y; omega
    · obtain ⟨g1, g2⟩ := H n (s2 n) (lt2 n)
      rw [← f1] at g1 g2
      by_cases y : b k (k + 1) = 0
      · have := g1 y; omega
      · have := hl.le _ _ k0 (by omega) y; omega
  | two r' c' b0 u pv' T0 cl hu ud T =>
    obtain ⟨q1, q2⟩ := pv.same pv'; subst q1; subst q2
    have f1 := T0.ss (k + 1) (by omega)
    have f2 := T0.rr (k + 1) (by omega)
    have f0 : b k k = a (k + 1) (k + 1) := by rw [T.kk, cl.addR_kk hu, T0.kk, e1]
    rw [e2, e1, cl.1 _ (by omega)] at f1
    rw [e3, e1, cl.2 _ (by omega)] at f2
    have l0 := hl.le k k k0 k0 (by rw [f0]; exact pv.nz)
    rw [f0] at l0
    rcases nc with n | n
    · have := (H n (s1 n) (lt1 n)).1 f2.symm; omega
    · have := (H n (s2 n) (lt2 n)).1 f1.symm; omega
theorem half2 (z : Z2 k a) (ps : Post k a) (h : It k a b) {c : Mx} (h2 : It k b c) {l : Nat} (hl : Lst k c l) : 2 * l ≤ (a k k).natAbs := by
  have key : ∀ r c', Piv k a r c' → 2 * l ≤ (a k k).natAbs := fun r c' pv => by
    obtain ⟨q1, q2⟩ := z.piv pv
    have q3 := pv.r0
    have q4 := pv.c0
    have lb := h2.kk.1
    have lc := h2.fall lb hl
    have e : (r = k ∧ c' = k) ∨ (r = k ∧ c' = k + 1) ∨ (r = k + 1 ∧ c' = k) ∨ (r = k + 1 ∧ c' = k + 1) := by omega
    rcases e with ⟨x, y⟩ | ⟨x, y⟩ | ⟨x, y⟩ | ⟨x, y⟩
    · subst x; subst y
      exfalso
      refine ps.nc ⟨fun j hj => Classical.byContradiction fun nz => ?_, fun i hi => Classical.byContradiction fun nz => ?_⟩
      · have := pv.le _ _ q3 (by omega) nz
        have := ps.s j hj nz
        omega
      · have := pv.le _ _ (by omega) q4 nz
        have := ps.r i hi nz
        omega
    · subst x; subst y
      have := h.half_row lb (by omega) pv (ps.s _ (by omega) pv.nz)
      omega
    · subst x; subst y
      have := h.half_col lb (by omega) pv (ps.r _ (by omega) pv.nz)
      omega
    · subst x; subst y
      have := ps.nz
      have := pv.nz
      by_cases c1 : 0 < a k k <;> by_cases c2 : 0 < a (k + 1) (k + 1)
      · have := half_in z ps h lb pv (.inl ⟨c1, c2⟩); omega
      · exact half_opp z ps h h2 hl pv c1 (by omega)
      · have := half_opp (a := ng a) (b := ng b) (c := ng c) (fun i j hi hj hh => by unfold ng; rw [z i j hi hj hh]; rfl) ps.ng h.ng h2.ng hl.ng pv.ng (by unfold ng; omega) (by unfold ng; omega)
        unfold ng at this
        omega
      · have := half_in z ps h lb pv (.inr ⟨by omega, by omega⟩); omega
  cases h with
  | one r' c'' pv2 _ _ => exact key _ _ pv2
  | two r' c'' _ _ pv2 _ _ _ _ _ => exact key _ _ pv2
end

theorem turn_of {s : SS} {k : Int} (h : Shape s) (s0 : 0 ≤ k) (s1 : k < s.n) (s2 : k < s.m) (nz : tf s k k ≠ 0) : Turn k (tf s) (tf (m_cleared s k)) := by
  have F : ∀ x p : Int, x - Int.fdiv x p * p = x.fmod p := fun x p => by rw [Int.fmod_def, Int.mul_comm]
  refine ⟨nz, ?_, fun i hi => ?_, fun j hj => ?_, fun i j hi hj => ?_⟩
  · rw [tf_cleared h s0 s1 s2, if_neg (by omega), if_neg (by omega)]; omega
  · rw [tf_cleared h s0 s1 s2, if_pos hi, if_neg (by omega), F]; omega
  · rw [tf_cleared h s0 s1 s2, if_neg (by omega), if_pos hj, if_neg (by omega), F]
  · have e1 : tf (m_cleared s k) i k = (tf s i k).fmod (tf s k k) := by rw [tf_cleared h s0 s1 s2, if_pos hi, if_neg (by omega), F]; omega
    have e2 : tf (m_cleared s k) k j = (tf s k j).fmod (tf s k k) := by rw [tf_cleared h s0 s1 s2, if_neg (by omega), if_pos hj, if_neg (by omega), F]
    rw [e1, e2, tf_cleared h s0 s1 s2, if_pos hi, if_pos hj, if_pos hi, F]
    unfold d2
    have q1 := fm_eq (tf s i k) (tf s k k)
    have q2 := fm_eq (tf s k j) (tf s k k)
    generalize (tf s i k).fdiv (tf s k k) = x at *
    generalize (tf s k j).fdiv (tf s k k) = y at *
    generalize (tf s i k).fmod (tf s k k) = u at *
    generalize (tf s k j).fmod (tf s k k) = v at *
    rw [q1, q2]
    grind
theorem swp_of {s : SS} {k r c : Int} (h : Shape s) (s0 : 0 ≤ k) (s1 : k < s.n) (s2 : k < s.m) (r0 : 0 ≤ r) (r1 : r < s.n) (c0 : 0 ≤ c) (c1 : c < s.m) : tf (m_columns_changed (m_rows_changed s k r) k c) = swp k r c (tf s) := by
  funext i j
  have h' := shape_rows_changed (a := k) (b := r) h s0 s1 r0 r1
  rw [tf_swC h' s0 (show k < (m_rows_changed s k r).m from s2) c0 (show c < (m_rows_changed s k r).m from c1), tf_swR h s0 s1 r0 r1]
  rfl
theorem addR_of {s : SS} {k u : Int} (h : Shape s) (s0 : 0 ≤ k) (s1 : k < s.n) (u0 : 0 ≤ u) (u1 : u < s.n) : tf (m_row_to s u 1 k) = addR k u (tf s) := by
  funext i j
  rw [tf_rowTo h u0 u1 s0 s1]
  unfold addR
  split <;> omega
theorem clr_of {s : SS} {k : Int} (s0 : 0 ≤ k) (s1 : k < s.n) (s2 : k < s.m) : m_is_clear s k = true ↔ Clr k (tf s) := by
  rw [clear_is]
  constructor
  · rintro ⟨h1, h2⟩
    refine ⟨fun j hj => ?_, fun i hi => ?_⟩
    · by_cases c : j < s.m
      · rw [tf_in s0 s1 (by omega) c]; exact h1 j hj c
      · exact tf_out (fun d => c d.2.2)
    · by_cases c : i < s.n
      · rw [tf_in (by omega) c s0 s2]; exact h2 i hi c
      · exact tf_out (fun d => c d.1.2)
  · rintro ⟨h1, h2⟩
    refine ⟨fun j hj c => ?_, fun i hi c => ?_⟩
    · rw [← tf_in s0 s1 (by omega) c]; exact h1 j hj
    · rw [← tf_in (by omega) c s0 s2]; exact h2 i hi
theorem loopR_inl {ρ α : Type} {f : Unit → α → ρ ⊕ Unit} {r : ρ} : ∀ {l : List α}, loopR f () l = .inl r → ∃ a ∈ l, f () a = .inl r
  | [], h => by cases h
  | a :: l, h => by
    rw [loopR] at h
    cases e : f () a with
    | inl r' => rw [e] at h; cases h; exact ⟨a, List.mem_cons_self, e⟩
    | inr z =>
      rw [e] at h
      obtain ⟨x, h1, h2⟩ := loopR_inl (l := l) h
      exact ⟨x, List.mem_cons_of_mem _ h1, h2⟩
theorem und_some {s : SS} {k u : Int} (s0 : 0 ≤ k) (s1 : k < s.n) (s2 : k < s.m) (h : m_undivided s k = some u) : (k < u ∧ u < s.n) ∧ ∃ j, k < j ∧ (tf s u j).fmod (tf s k k) ≠ 0 := by
  unfold m_undivided at h
  cases e : loopR (v_undivided_f2 s k) () (rng2 (k + (1 : Int)) s.n) with
  | inr z => rw [e] at h; cases h
  | inl r =>
    rw [e] at h
    have h : r = some u := h
    subst h
    obtain ⟨row, hr, h1⟩ := loopR_inl e
    have hr := mem_rng2 hr
    unfold v_undivided_f2 at h1
    cases e1 : loopR (v_undivided_f1 s k row) () (rng2 (k + (1 : Int)) s.m) with
    | inr z => rw [e1] at h1; cases h1
    | inl r =>
      rw [e1] at h1
      have h1 : r = .inl (some u) := h1
      subst h1
      obtain ⟨col, hc, h2⟩ := loopR_inl e1
      have hc := mem_rng2 hc
      unfold v_undivided_f1 at h2
      split at h2
      · rename_i c
        cases h2
        refine ⟨⟨by omega, hr.2⟩, col, by omega, ?_⟩
        rw [tf_in (by omega) hr.2 (by omega) hc.2, tf_in s0 s1 s0 s2]
        have c : (!decide (Int.fmod (at2 (s.tb .T) u col) (at2 (s.tb .T) k k) = 0)) = true := c
        simpa using c
      · cases h2
theorem und_none {s : SS} {k : Int} (s0 : 0 ≤ k) (s1 : k < s.n) (s2 : k < s.m) (h : m_undivided s k = none) {i j : Int} (hi : k < i) (hj : k < j) : (tf s i j).fmod (tf s k k) = 0 := by
  by_cases d : (0 ≤ i ∧ i < s.n) ∧ 0 ≤ j ∧ j < s.m
  · unfold m_undivided at h
    have h1 : ∀ row ∈ rng2 (k + (1 : Int)) s.n, v_undivided_f2 s k () row = .inr () := by
      cases e : loopR (v_undivided_f2 s k) () (rng2 (k + (1 : Int)) s.n) with
      | inr z => exact loopR_all e
      | inl r =>
        rw [e] at h
        have h : r = none := h
        subst h
        obtain ⟨row, hr, h1⟩ := loopR_inl e
        unfold v_undivided_f2 at h1
        cases e1 : loopR (v_undivided_f1 s k row) () (rng2 (k + (1 : Int)) s.m) with
        | inr z => rw [e1] at h1; cases h1
        | inl r =>
          rw [e1] at h1
          have h1 : r = .inl none := h1
          subst h1
          obtain ⟨col, hc, h2⟩ := loopR_inl e1
          unfold v_undivided_f1 at h2
          split at h2
          · cases h2
          · cases h2
    have h2 := h1 i (mem_rng2_iff.mpr ⟨by omega, d.1.2⟩)
    unfold v_undivided_f2 at h2
    have h3 : ∀ col ∈ rng2 (k + (1 : Int)) s.m, v_undivided_f1 s k i () col = .inr () := by
      cases e : loopR (v_undivided_f1 s k i) () (rng2 (k + (1 : Int)) s.m) with
      | inr z => exact loopR_all e
      | inl r =>
        rw [e] at h2
        have h2 : r = .inr () := h2
        subst h2
        obtain ⟨col, hc, h4⟩ := loopR_inl e
        unfold v_undivided_f1 at h4
        split at h4 <;> cases h4
    have h4 := h3 j (mem_rng2_iff.mpr ⟨by omega, d.2.2⟩)
    unfold v_undivided_f1 at h4
    split at h4
    · cases h4
    · rename_i c
      rw [tf_in d.1.1 d.1.2 d.2.1 d.2.2, tf_in s0 s1 s0 s2]
      have c : ¬ (!decide (Int.fmod (at2 (s.tb .T) i j) (at2 (s.tb .T) k k) = 0)) = true := c
      simpa using c
  · rw [tf_out d, Int.zero_fmod]
theorem piv_some {s : SS} {k h r c : Int} (s0 : 0 ≤ k) (e : m_least_from s k = some (h, r, c)) : (Piv k (tf s) r c ∧ r < s.n ∧ c < s.m) ∧ h = ((tf s r c).natAbs : Nat) := by
  obtain ⟨h1, h2, h3, h4, h5⟩ := (least_is s k).so h r c e
  obtain ⟨⟨r0, r1⟩, c0, c1⟩ := mem_lfPos.mp h1
  have r0 : k ≤ r := r0
  have r1 : r < s.n := r1
  have c0 : k ≤ c := c0
  have c1 : c < s.m := c1
  have e0 := tf_in (s := s) (i := r) (j := c) (by omega) r1 (by omega) c1
  have inn : ∀ {i j : Int}, k ≤ i → k ≤ j → tf s i j ≠ 0 → (i, j) ∈ lfPos k s.n s.m ∧ tf s i j = at2 (s.tb .T) i j := fun {i j} hi hj nz => by
    by_cases d : (0 ≤ i ∧ i < s.n) ∧ 0 ≤ j ∧ j < s.m
    · exact ⟨mem_lfPos.mpr ⟨⟨hi, d.1.2⟩, hj, d.2.2⟩, tf_in d.1.1 d.1.2 d.2.1 d.2.2⟩
    · exact absurd (tf_out d) nz
  refine ⟨⟨⟨r0, c0, by rw [e0]; intro z; rw [z] at h2; omega, fun i j hi hj nz => ?_, fun i j hi hj l nz => ?_⟩, r1, c1⟩, by rw [e0]; exact h2⟩
  · obtain ⟨m, e1⟩ := inn hi hj nz
    rw [e1] at nz
    have := h4 (i, j) m nz
    rw [e0, e1]
    have this : h ≤ ((at2 (s.tb .T) i j).natAbs : Nat) := this
    omega
  · obtain ⟨m, e1⟩ := inn hi hj nz
    rw [e1] at nz
    have := h5 (i, j) m l nz
    rw [e0, e1]
    have this : h < ((at2 (s.tb .T) i j).natAbs : Nat) := this
    omega
theorem piv_none {s : SS} {k : Int} (s0 : 0 ≤ k) (e : m_least_from s k = none) {i j : Int} (hi : k ≤ i) (hj : k ≤ j) : tf s i j = 0 := by
  by_cases d : (0 ≤ i ∧ i < s.n) ∧ 0 ≤ j ∧ j < s.m
  · rw [tf_in d.1.1 d.1.2 d.2.1 d.2.2]
    exact (least_is s k).no e (i, j) (mem_lfPos.mpr ⟨⟨hi, d.1.2⟩, hj, d.2.2⟩)
  · exact tf_out d
abbrev swS (s : SS) (k r c : Int) : SS := m_columns_changed (m_rows_changed s k r) k c
theorem shape_swS {s : SS} {k r c : Int} (h : Shape s) (s0 : 0 ≤ k) (s1 : k < s.n) (s2 : k < s.m) (r0 : 0 ≤ r) (r1 : r < s.n) (c0 : 0 ≤ c) (c1 : c < s.m) : Shape (swS s k r c) :=
  shape_columns_changed (shape_rows_changed h s0 s1 r0 r1) s0 (show k < (m_rows_changed s k r).m from s2) c0 (show c < (m_rows_changed s k r).m from c1)
theorem shape_cleared {s : SS} {k : Int} (h : Shape s) (s0 : 0 ≤ k) (s1 : k < s.n) (s2 : k < s.m) : Shape (m_cleared s k) := (cleared_shape h s0 s1 s2)
theorem doF_it {s z : SS} {k : Int} (h : Shape s) (s0 : 0 ≤ k) (s1 : k < s.n) (s2 : k < s.m) (e : doF k s = .inr z) : It k (tf s) (tf z) ∧ Shape z := by
  unfold doF at e
  split at e
  · cases e
  · rename_i pl hm
    obtain ⟨h', r, c⟩ := pl
    obtain ⟨⟨pv, r1, c1⟩, _⟩ := piv_some s0 hm
    have r0 := pv.r0
    have c0 := pv.c0
    have hs := shape_swS h s0 s1 s2 (by omega : 0 ≤ r) r1 (by omega : 0 ≤ c) c1
    have es := swp_of h s0 s1 s2 (by omega : 0 ≤ r) r1 (by omega : 0 ≤ c) c1
    have nz : tf (swS s k r c) k k ≠ 0 := by rw [es, swp_kk]; exact pv.nz
    have T := turn_of hs s0 s1 s2 nz
    rw [es] at T
    have hs2 := shape_cleared hs s0 s1 s2
    have n1 : k < (m_cleared (swS s k r c) k).n := by rw [cleared_nm.1]; exact s1
    have n2 : k < (m_cleared (swS s k r c) k).m := by rw [cleared_nm.2]; exact s2
    have cl := clr_of (s := m_cleared (swS s k r c) k) s0 n1 n2
    dsimp only at e
    split at e
    · rename_i c1
      split at e
      · cases e
      · rename_i u hu
        cases e
        obtain ⟨⟨u0, u1⟩, ud⟩ := und_some s0 n1 n2 hu
        have hs3 := shape_row_to (q := 1) hs2 (by omega : 0 ≤ u) u1 s0 n1
        have ea := addR_of hs2 s0 n1 (by omega : 0 ≤ u) u1
        have cl := cl.mp c1
        have nz3 : tf (m_row_to (m_cleared (swS s k r c) k) u 1 k) k k ≠ 0 := by rw [ea, cl.addR_kk u0, T.kk, swp_kk]; exact pv.nz
        have T3 := turn_of hs3 s0 n1 n2 nz3
        rw [ea] at T3
        exact ⟨.two r c _ u pv T cl u0 ud T3, shape_cleared hs3 s0 n1 n2⟩
    · rename_i c1
      cases e
      exact ⟨.one r c pv T (fun q => c1 (cl.mpr q)), hs2⟩
theorem doF_end {s z : SS} {k : Int} {d : Bool} (h : Shape s) (s0 : 0 ≤ k) (s1 : k < s.n) (s2 : k < s.m) (e : doF k s = .inl (d, z)) :
    Shape z ∧ (d = false → z = s ∧ ∀ i j, k ≤ i → k ≤ j → tf s i j = 0) ∧ (d = true → ∃ r c, Piv k (tf s) r c ∧ Turn k (swp k r c (tf s)) (tf z) ∧ Clr k (tf z) ∧ ∀ i j, k < i → k < j → (tf z i j).fmod (tf z k k) = 0) := by
  unfold doF at e
  split at e
  · rename_i hm
    cases e
    exact ⟨h, fun _ => ⟨rfl, fun i j hi hj => piv_none s0 hm hi hj⟩, fun q => by cases q⟩
  · rename_i pl hm
    obtain ⟨h', r, c⟩ := pl
    obtain ⟨⟨pv, r1, c1⟩, _⟩ := piv_some s0 hm
    have r0 := pv.r0
    have c0 := pv.c0
    have hs := shape_swS h s0 s1 s2 (by omega : 0 ≤ r) r1 (by omega : 0 ≤ c) c1
    have es := swp_of h s0 s1 s2 (by omega : 0 ≤ r) r1 (by omega : 0 ≤ c) c1
    have nz : tf (swS s k r c) k k ≠ 0 := by rw [es, swp_kk]; exact pv.nz
    have T := turn_of hs s0 s1 s2 nz
    rw [es] at T
    have hs2 := shape_cleared hs s0 s1 s2
    have n1 : k < (m_cleared (swS s k r c) k).n := by rw [cleared_nm.1]; exact s1
    have n2 : k < (m_cleared (swS s k r c) k).m := by rw [cleared_nm.2]; exact s2
    have cl := clr_of (s := m_cleared (swS s k r c) k) s0 n1 n2
    dsimp only at e
    split at e
    · rename_i c1
      split at e
      · rename_i hu
        cases e
        exact ⟨hs2, fun q => (by cases q), fun _ => ⟨r, c, pv, T, cl.mp c1, fun i j hi hj => und_none s0 n1 n2 hu hi hj⟩⟩
      · cases e
    · cases e

theorem getA_mem {α : Type} [Inhabited α] {l : List α} {i : Int} (i0 : 0 ≤ i) (i1 : i < l.length) : getA l i ∈ l := by
  obtain ⟨i, rfl⟩ := Int.eq_ofNat_of_zero_le i0
  have hi : i < l.length := by omega
  rw [getA_nat hi]; exact List.getElem_mem _
def BT (t : Tbl) (b : Nat) : Prop := ∀ row ∈ t, ∀ z ∈ row, z.natAbs < 2 ^ b
def TB (s : SS) (b : Nat) : Prop := ∀ f, BT (s.tb f) b
theorem BT.mono {t : Tbl} {b c : Nat} (h : BT t b) (l : b ≤ c) : BT t c := fun row hr z hz => Nat.lt_of_lt_of_le (h row hr z hz) (Nat.pow_le_pow_right (by decide) l)
theorem TB.mono {s : SS} {b c : Nat} (h : TB s b) (l : b ≤ c) : TB s c := fun f => (h f).mono l
theorem TB.sm {s : SS} {b : Nat} (h : TB s b) (hb : b ≤ 67108864) : smAll s := fun f row hr z hz => ⟨b, hb, h f row hr z hz⟩
theorem op_bits {x y q : Int} {b c : Nat} (hx : x.natAbs < 2 ^ b) (hy : y.natAbs < 2 ^ b) (hq : q.natAbs < 2 ^ c) : (y + q * x).natAbs < 2 ^ (b + c + 1) ∧ (y - q * x).natAbs < 2 ^ (b + c + 1) := by
  have e1 : (q * x).natAbs ≤ 2 ^ c * 2 ^ b := by rw [Int.natAbs_mul]; exact Nat.mul_le_mul (Nat.le_of_lt hq) (Nat.le_of_lt hx)
  have e2 : 2 ^ c * 2 ^ b = 2 ^ (b + c) := by rw [← Nat.pow_add, Nat.add_comm]
  have e3 : 2 ^ b ≤ 2 ^ (b + c) := Nat.pow_le_pow_right (by decide) (by omega)
  have e4 : 2 ^ (b + c + 1) = 2 ^ (b + c) + 2 ^ (b + c) := by rw [Nat.pow_succ]; omega
  omega
theorem bt_rAdd {t : Tbl} {a o q : Int} {b c : Nat} (h : BT t b) (ha : getA t a ∈ t) (ho : getA t o ∈ t) (hq : q.natAbs < 2 ^ c) : BT (rAdd t a q o) (b + c + 1) := fun row hr z hz => by
  rcases mem_setA hr with e | e
  · subst e
    obtain ⟨p, hp, rfl⟩ := List.mem_map.mp hz
    have := List.of_mem_zip (a := p.1) (b := p.2) hp
    exact (op_bits (h _ ha _ this.1) (h _ ho _ this.2) hq).1
  · exact (h.mono (by omega : b ≤ b + c + 1)) row e z hz
theorem bt_rSub {t : Tbl} {a o q : Int} {b c : Nat} (h : BT t b) (ha : getA t a ∈ t) (ho : getA t o ∈ t) (hq : q.natAbs < 2 ^ c) : BT (rSub t a q o) (b + c + 1) := fun row hr z hz => by
  rcases mem_setA hr with e | e
  · subst e
    obtain ⟨p, hp, rfl⟩ := List.mem_map.mp hz
    have := List.of_mem_zip (a := p.1) (b := p.2) hp
    exact (op_bits (h _ ho _ this.2) (h _ ha _ this.1) hq).2
  · exact (h.mono (by omega : b ≤ b + c + 1)) row e z hz
theorem bt_cAdd {t : Tbl} {n m a o q : Int} {b c : Nat} (r : Rect t n m) (h : BT t b) (a0 : 0 ≤ a) (a1 : a < m) (o0 : 0 ≤ o) (o1 : o < m) (hq : q.natAbs < 2 ^ c) : BT (t.map (cAdd a q o)) (b + c + 1) := fun row hr z hz => by
  obtain ⟨w, hw, rfl⟩ := List.mem_map.mp hr
  have hl := r.2 w hw
  rcases mem_setA hz with e | e
  · subst e
    exact (op_bits (h _ hw _ (getA_mem a0 (by omega))) (h _ hw _ (getA_mem o0 (by omega))) hq).1
  · exact (h.mono (by omega : b ≤ b + c + 1)) w hw z e
theorem bt_cSub {t : Tbl} {n m a o q : Int} {b c : Nat} (r : Rect t n m) (h : BT t b) (a0 : 0 ≤ a) (a1 : a < m) (o0 : 0 ≤ o) (o1 : o < m) (hq : q.natAbs < 2 ^ c) : BT (t.map (cSub a q o)) (b + c + 1) := fun row hr z hz => by
  obtain ⟨w, hw, rfl⟩ := List.mem_map.mp hr
  have hl := r.2 w hw
  rcases mem_setA hz with e | e
  · subst e
    exact (op_bits (h _ hw _ (getA_mem o0 (by omega))) (h _ hw _ (getA_mem a0 (by omega))) hq).2
  · exact (h.mono (by omega : b ≤ b + c + 1)) w hw z e
theorem rect_gm {t : Tbl} {n m k : Int} (r : Rect t n m) (k0 : 0 ≤ k) (k1 : k < n) : getA t k ∈ t := (r.get k0 k1).1
theorem tb_row_to {s : SS} {a q o : Int} {b c : Nat} (h : Shape s) (tb : TB s b) (a0 : 0 ≤ a) (a1 : a < s.n) (o0 : 0 ≤ o) (o1 : o < s.n) (hq : q.natAbs < 2 ^ c) : TB (m_row_to s a q o) (b + c + 1) := fun f => by
  cases f with
  | T => exact bt_rAdd (tb .T) (rect_gm h.T a0 a1) (rect_gm h.T o0 o1) hq
  | L => exact bt_rAdd (tb .L) (rect_gm h.L a0 a1) (rect_gm h.L o0 o1) hq
  | Lb => exact bt_cSub h.Lb (tb .Lb) a0 a1 o0 o1 hq
  | R => exact (tb .R).mono (by omega)
  | Rb => exact (tb .Rb).mono (by omega)
theorem tb_column_to {s : SS} {a q o : Int} {b c : Nat} (h : Shape s) (tb : TB s b) (a0 : 0 ≤ a) (a1 : a < s.m) (o0 : 0 ≤ o) (o1 : o < s.m) (hq : q.natAbs < 2 ^ c) : TB (m_column_to s a q o) (b + c + 1) := fun f => by
  cases f with
  | T => exact bt_cAdd h.T (tb .T) a0 a1 o0 o1 hq
  | R => exact bt_cAdd h.R (tb .R) a0 a1 o0 o1 hq
  | Rb => exact bt_rSub (tb .Rb) (rect_gm h.Rb a0 a1) (rect_gm h.Rb o0 o1) hq
  | L => exact (tb .L).mono (by omega)
  | Lb => exact (tb .Lb).mono (by omega)
theorem bt_swA {t : Tbl} {n m a o : Int} {b : Nat} (r : Rect t n m) (h : BT t b) (a0 : 0 ≤ a) (a1 : a < n) (o0 : 0 ≤ o) (o1 : o < n) : BT (swA a o t) b := fun row hr z hz => by
  rcases mem_setA hr with e | e
  · subst e; exact h _ (rect_gm r a0 a1) z hz
  · rcases mem_setA e with e | e
    · subst e; exact h _ (rect_gm r o0 o1) z hz
    · exact h row e z hz
theorem bt_swC {t : Tbl} {n m a o : Int} {b : Nat} (r : Rect t n m) (h : BT t b) (a0 : 0 ≤ a) (a1 : a < m) (o0 : 0 ≤ o) (o1 : o < m) : BT (t.map (swA a o)) b := fun row hr z hz => by
  obtain ⟨w, hw, rfl⟩ := List.mem_map.mp hr
  have hl := r.2 w hw
  rcases mem_setA hz with e | e
  · subst e; exact h _ hw _ (getA_mem a0 (by omega))
  · rcases mem_setA e with e | e
    · subst e; exact h _ hw _ (getA_mem o0 (by omega))
    · exact h w hw z e
theorem tb_rows {s : SS} {a o : Int} {b : Nat} (h : Shape s) (tb : TB s b) (a0 : 0 ≤ a) (a1 : a < s.n) (o0 : 0 ≤ o) (o1 : o < s.n) : TB (m_rows_changed s a o) b := fun f => by
  cases f with
  | T => exact bt_swA h.T (tb .T) a0 a1 o0 o1
  | L => exact bt_swA h.L (tb .L) a0 a1 o0 o1
  | Lb => exact bt_swC h.Lb (tb .Lb) a0 a1 o0 o1
  | R => exact tb .R
  | Rb => exact tb .Rb
theorem tb_columns {s : SS} {a o : Int} {b : Nat} (h : Shape s) (tb : TB s b) (a0 : 0 ≤ a) (a1 : a < s.m) (o0 : 0 ≤ o) (o1 : o < s.m) : TB (m_columns_changed s a o) b := fun f => by
  cases f with
  | T => exact bt_swC h.T (tb .T) a0 a1 o0 o1
  | R => exact bt_swC h.R (tb .R) a0 a1 o0 o1
  | Rb => exact bt_swA h.Rb (tb .Rb) a0 a1 o0 o1
  | L => exact tb .L
  | Lb => exact tb .Lb
theorem tb_swS {s : SS} {k r c : Int} {b : Nat} (h : Shape s) (tb : TB s b) (s0 : 0 ≤ k) (s1 : k < s.n) (s2 : k < s.m) (r0 : 0 ≤ r) (r1 : r < s.n) (c0 : 0 ≤ c) (c1 : c < s.m) : TB (swS s k r c) b :=
  tb_columns (shape_rows_changed h s0 s1 r0 r1) (tb_rows h tb s0 s1 r0 r1) s0 (show k < (m_rows_changed s k r).m from s2) c0 (show c < (m_rows_changed s k r).m from c1)
theorem tb_contrary {s : SS} {a : Int} {b : Nat} (h : Shape s) (tb : TB s b) (a0 : 0 ≤ a) (a1 : a < s.n) : TB (m_row_contrary s a) b := by
  have R : ∀ {t : Tbl} {n m : Int}, Rect t n m → BT t b → a < n → BT (rNeg t a) b := fun {t n m} r h a1 row hr z hz => by
    rcases mem_setA hr with e | e
    · subst e
      obtain ⟨p, hp, rfl⟩ := List.mem_map.mp hz
      rw [Int.natAbs_neg]; exact h _ (rect_gm r a0 a1) p hp
    · exact h row e z hz
  intro f
  cases f with
  | T => exact R h.T (tb .T) a1
  | L => exact R h.L (tb .L) a1
  | Lb =>
    intro row hr z hz
    obtain ⟨w, hw, rfl⟩ := List.mem_map.mp hr
    have hl := h.Lb.2 w hw
    rcases mem_setA hz with e | e
    · subst e; rw [Int.natAbs_neg]; exact tb .Lb _ hw _ (getA_mem a0 (by omega))
    · exact tb .Lb w hw z e
  | R => exact tb .R
  | Rb => exact tb .Rb
theorem fdiv_abs0 {x p : Int} (hp : 0 < p) : (x.fdiv p).natAbs ≤ x.natAbs := by
  have e := fm_eq x p
  have r := fm_pos (x := x) hp
  generalize x.fdiv p = q at *
  generalize x.fmod p = r at *
  by_cases c : 0 ≤ q
  · have : 1 * q ≤ p * q := Int.mul_le_mul_of_nonneg_right (by omega) c
    omega
  · have : p * (q + 1) ≤ 1 * (q + 1) := Int.mul_le_mul_of_nonpos_right (by omega) (by omega)
    have e2 : p * (q + 1) = p * q + p := by rw [Int.mul_add]; omega
    omega
theorem fdiv_abs {x p : Int} (hp : p ≠ 0) : (x.fdiv p).natAbs ≤ x.natAbs := by
  by_cases c : 0 < p
  · exact fdiv_abs0 c
  · have := fdiv_abs0 (x := -x) (p := -p) (by omega)
    rw [Int.neg_fdiv_neg, Int.natAbs_neg] at this
    exact this
theorem take_notin {α : Type} {l : List α} {i : Nat} {x : α} (nd : l.Nodup) (h : l[i]? = some x) : x ∉ l.take i := by
  intro hm
  rw [← List.take_append_drop i l] at nd
  refine (List.nodup_append.mp nd).2.2 x hm x ?_ rfl
  have hi : i < l.length := by
    rw [List.getElem?_eq_some_iff] at h; exact h.1
  rw [List.drop_eq_getElem_cons hi]
  rw [List.getElem?_eq_getElem hi] at h
  cases h
  exact List.mem_cons_self
section
variable {k : Int} {c : Nat}
theorem clR_tb1 {s : SS} {b : Nat} {x : Int} (h : Shape s) (tb : TB s b) (s0 : 0 ≤ k) (s1 : k < s.n) (x0 : 0 ≤ x) (x1 : x < s.n) (hq : (Int.fdiv (at2 (s.tb .T) x k) (at2 (s.tb .T) k k)).natAbs < 2 ^ c) : TB (clR k s x) (b + (c + 1)) := by
  unfold clR
  split
  · exact tb_row_to h tb s0 s1 x0 x1 (by rw [Int.natAbs_neg]; exact hq)
  · exact tb.mono (by omega)
theorem clC_tb1 {s : SS} {b : Nat} {x : Int} (h : Shape s) (tb : TB s b) (s0 : 0 ≤ k) (s1 : k < s.m) (x0 : 0 ≤ x) (x1 : x < s.m) (hq : (Int.fdiv (at2 (s.tb .T) k x) (at2 (s.tb .T) k k)).natAbs < 2 ^ c) : TB (clC k s x) (b + (c + 1)) := by
  unfold clC
  split
  · exact tb_column_to h tb s0 s1 x0 x1 (by rw [Int.natAbs_neg]; exact hq)
  · exact tb.mono (by omega)
theorem clR_tb : ∀ (l : List Int) (s : SS) (b : Nat), Shape s → TB s b → 0 ≤ k → k < s.n → k < s.m → (∀ x ∈ l, k < x ∧ x < s.n) → l.Nodup → (∀ x ∈ l, (Int.fdiv (at2 (s.tb .T) x k) (at2 (s.tb .T) k k)).natAbs < 2 ^ c) → TB (l.foldl (clR k) s) (b + l.length * (c + 1))
  | [], s, b, h, tb, _, _, _, _, _, _ => by simpa using tb
  | x :: l, s, b, h, tb, s0, s1, s2, hl, nd, hq => by
    obtain ⟨nx, nd2⟩ := List.nodup_cons.mp nd
    have hx := hl x List.mem_cons_self
    have x0 : 0 ≤ x := by omega
    have nm := clR_nm (s := s) (step := k) (row := x)
    have h' := clR_shape (x := x) h s0 s1 x0 hx.2
    have t' := clR_tb1 h tb s0 s1 x0 hx.2 (hq x List.mem_cons_self)
    have A := fun i j (i0 : 0 ≤ i) (i1 : i < s.n) (j0 : 0 ≤ j) (j1 : j < s.m) => clR_at (x := x) (i := i) (j := j) h s0 s1 x0 hx.2 i0 i1 j0 j1
    have := clR_tb l (clR k s x) (b + (c + 1)) h' t' s0 (by rw [nm.1]; exact s1) (by rw [nm.2]; exact s2) (fun y hy => by rw [nm.1]; exact hl y (List.mem_cons_of_mem _ hy)) nd2 (fun y hy => by
      have hy2 := hl y (List.mem_cons_of_mem _ hy)
      rw [A k k s0 s1 s0 s2, if_neg (by omega), A y k (by omega) hy2.2 s0 s2, if_neg (show ¬ y = x from fun e => nx (e ▸ hy))]
      exact hq y (List.mem_cons_of_mem _ hy))
    rw [List.foldl_cons, List.length_cons, Nat.add_mul]
    exact this.mono (by omega)
theorem clC_tb : ∀ (l : List Int) (s : SS) (b : Nat), Shape s → TB s b → 0 ≤ k → k < s.n → k < s.m → (∀ x ∈ l, k < x ∧ x < s.m) → l.Nodup → (∀ x ∈ l, (Int.fdiv (at2 (s.tb .T) k x) (at2 (s.tb .T) k k)).natAbs < 2 ^ c) → TB (l.foldl (clC k) s) (b + l.length * (c + 1))
  | [], s, b, h, tb, _, _, _, _, _, _ => by simpa using tb
  | x :: l, s, b, h, tb, s0, s1, s2, hl, nd, hq => by
    obtain ⟨nx, nd2⟩ := List.nodup_cons.mp nd
    have hx := hl x List.mem_cons_self
    have x0 : 0 ≤ x := by omega
    have nm := clC_nm (s := s) (step := k) (row := x)
    have h' := clC_shape (x := x) h s0 s2 x0 hx.2
    have t' := clC_tb1 h tb s0 s2 x0 hx.2 (hq x List.mem_cons_self)
    have A := fun i j (i0 : 0 ≤ i) (i1 : i < s.n) (j0 : 0 ≤ j) (j1 : j < s.m) => clC_at (x := x) (i := i) (j := j) h s0 s2 x0 hx.2 i0 i1 j0 j1
    have := clC_tb l (clC k s x) (b + (c + 1)) h' t' s0 (by rw [nm.1]; exact s1) (by rw [nm.2]; exact s2) (fun y hy => by rw [nm.2]; exact hl y (List.mem_cons_of_mem _ hy)) nd2 (fun y hy => by
      have hy2 := hl y (List.mem_cons_of_mem _ hy)
      rw [A k k s0 s1 s0 s2, if_neg (by omega), A k y s0 s1 (by omega) hy2.2, if_neg (show ¬ y = x from fun e => nx (e ▸ hy))]
      exact hq y (List.mem_cons_of_mem _ hy))
    rw [List.foldl_cons, List.length_cons, Nat.add_mul]
    exact this.mono (by omega)
end
theorem rng2_len {a b : Int} : (rng2 a b).length = (b - a).toNat := by unfold rng2; rw [List.length_map, List.length_range]
theorem rng2_nodup {a b : Int} : (rng2 a b).Nodup := List.Pairwise.imp (fun h => Int.ne_of_lt h) (rng2_sorted a b)
def wT (s : SS) (k : Int) (c : Nat) : Nat := ((s.n - (k + 1)).toNat + (s.m - (k + 1)).toNat) * (c + 1)
theorem pcl_of {s : SS} {k : Int} {b c : Nat} (h : Shape s) (s0 : 0 ≤ k) (s1 : k < s.n) (s2 : k < s.m) (n3 : s.n ≤ 1000) (n4 : s.m ≤ 1000) (nz : tf s k k ≠ 0)
    (hc : ∀ i j, k ≤ i → k ≤ j → (tf s i j).natAbs < 2 ^ c) (hc9 : c ≤ 9000) (tb : TB s b) (hb : b + wT s k c ≤ 67108864) : PCl s k ∧ TB (m_cleared s k) (b + wT s k c) := by
  have k0 := Int.le_refl k
  have ekk := tf_in (s := s) (i := k) (j := k) s0 s1 s0 s2
  have nz' : at2 (s.tb .T) k k ≠ 0 := by rw [← ekk]; exact nz
  have hl : ∀ x ∈ rng2 (k + 1) s.n, k < x ∧ x < s.n := fun x hx => by have := mem_rng2 hx; omega
  have hl2 : ∀ x ∈ rng2 (k + 1) s.m, k < x ∧ x < s.m := fun x hx => by have := mem_rng2 hx; omega
  have tk : ∀ {l : List Int} {P : Int → Prop} (i : Nat), (∀ x ∈ l, P x) → ∀ x ∈ l.take i, P x := fun i h x hx => h x (List.mem_of_mem_take hx)
  have qr : ∀ x ∈ rng2 (k + 1) s.n, (Int.fdiv (at2 (s.tb .T) x k) (at2 (s.tb .T) k k)).natAbs < 2 ^ c := fun x hx => by
    have hx := hl x hx
    refine Nat.lt_of_le_of_lt (fdiv_abs nz') ?_
    rw [← tf_in (by omega) hx.2 s0 s2]; exact hc x k (by omega) k0
  have w0 : (rng2 (k + 1) s.n).length ≤ (s.n - (k + 1)).toNat := by rw [rng2_len]; omega
  have w1 : (rng2 (k + 1) s.m).length ≤ (s.m - (k + 1)).toNat := by rw [rng2_len]; omega
  have wl : ∀ {l : List Int} (i : Nat), (l.take i).length ≤ l.length := fun i => by rw [List.length_take]; omega
  have ww : ∀ {x y : Nat}, x ≤ (s.n - (k + 1)).toNat → y ≤ (s.m - (k + 1)).toNat → b + x * (c + 1) + y * (c + 1) ≤ b + wT s k c := fun {x y} hx hy => by
    unfold wT
    rw [Nat.add_mul]
    have := Nat.mul_le_mul_right (c + 1) hx
    have := Nat.mul_le_mul_right (c + 1) hy
    omega
  have dv : ∀ x, CDivX x (at2 (s.tb .T) k k) := fun x => ⟨nz', PyProof.noPylong_of_log2 (by
    rw [← ekk]
    exact (Nat.log2_lt (by omega)).mpr (Nat.lt_of_lt_of_le (hc k k k0 k0) (Nat.pow_le_pow_right (by decide) hc9)))⟩
  -- behind the rows
  have nmR : ∀ l : List Int, (l.foldl (clR k) s).n = s.n ∧ (l.foldl (clR k) s).m = s.m := fun l => fold_nm (f := clR k) (fun _ _ => clR_nm) l s
  have R := fun (l : List Int) (a : ∀ x ∈ l, k < x ∧ x < s.n) (nd : l.Nodup) => clR_fold (step := k) l s h s0 s1 s2 a nd
  have kn : ∀ (l : List Int), (∀ x ∈ l, k < x ∧ x < s.n) → k ∉ l := fun l a q => by have := a k q; omega
  have tR := clR_tb (c := c) (rng2 (k + 1) s.n) s b h tb s0 s1 s2 hl rng2_nodup qr
  obtain ⟨shR, atR⟩ := R _ hl rng2_nodup
  have nR := nmR (rng2 (k + 1) s.n)
  have okr : ∀ (i : Nat) (row : Int), (rng2 (k + 1) s.n)[i]? = some row → OkR (((rng2 (k + 1) s.n).take i).foldl (clR k) s) k row := fun i row hi => by
    have hm := List.mem_of_getElem? hi
    have hrow := hl row hm
    have a := tk (P := fun x => k < x ∧ x < s.n) i hl
    have nd : ((rng2 (k + 1) s.n).take i).Nodup := (List.take_sublist i _).nodup rng2_nodup
    obtain ⟨sh, at_⟩ := R _ a nd
    have t := clR_tb (c := c) ((rng2 (k + 1) s.n).take i) s b h tb s0 s1 s2 a nd (tk (P := fun x => (Int.fdiv (at2 (s.tb .T) x k) (at2 (s.tb .T) k k)).natAbs < 2 ^ c) i qr)
    have f1 := at_ k k s0 s1 s0 s2
    rw [if_neg (kn _ a)] at f1
    have f2 := at_ row k (by omega) hrow.2 s0 s2
    rw [if_neg (take_notin rng2_nodup hi)] at f2
    have := ww (x := ((rng2 (k + 1) s.n).take i).length) (y := 0) (Nat.le_trans (wl i) w0) (Nat.zero_le _)
    have this : b + ((rng2 (k + 1) s.n).take i).length * (c + 1) ≤ 67108864 := by omega
    refine ⟨sh, t.sm this, by rw [f1]; exact nz', by rw [f1, f2]; exact dv _, ?_⟩
    rw [f1, f2]
    exact ⟨c, by omega, qr row hm⟩
  generalize hs' : (rng2 (k + 1) s.n).foldl (clR k) s = s' at *
  have ekk' : at2 (s'.tb .T) k k = at2 (s.tb .T) k k := by rw [atR k k s0 s1 s0 s2, if_neg (kn _ hl)]
  have ekj' : ∀ j, 0 ≤ j → j < s.m → at2 (s'.tb .T) k j = at2 (s.tb .T) k j := fun j a b => by rw [atR k j s0 s1 a b, if_neg (kn _ hl)]
  have n1' : k < s'.n := by rw [nR.1]; exact s1
  have n2' : k < s'.m := by rw [nR.2]; exact s2
  have hl3 : ∀ x ∈ rng2 (k + 1) s.m, k < x ∧ x < s'.m := fun x hx => by rw [nR.2]; exact hl2 x hx
  have qc : ∀ x ∈ rng2 (k + 1) s.m, (Int.fdiv (at2 (s'.tb .T) k x) (at2 (s'.tb .T) k k)).natAbs < 2 ^ c := fun x hx => by
    have hx := hl2 x hx
    rw [ekk', ekj' x (by omega) hx.2]
    refine Nat.lt_of_le_of_lt (fdiv_abs nz') ?_
    rw [← tf_in s0 s1 (by omega) hx.2]; exact hc k x k0 (by omega)
  have tC := clC_tb (c := c) (rng2 (k + 1) s.m) s' _ shR tR s0 n1' n2' hl3 rng2_nodup qc
  have okc : ∀ (i : Nat) (col : Int), (rng2 (k + 1) s.m)[i]? = some col → OkC (((rng2 (k + 1) s.m).take i).foldl (clC k) s') k col := fun i col hi => by
    have hm := List.mem_of_getElem? hi
    have hcol := hl3 col hm
    have a := tk (P := fun x => k < x ∧ x < s'.m) i hl3
    have nd : ((rng2 (k + 1) s.m).take i).Nodup := (List.take_sublist i _).nodup rng2_nodup
    obtain ⟨sh, at_⟩ := clC_fold (step := k) _ s' shR s0 n1' n2' a nd
    have t := clC_tb (c := c) ((rng2 (k + 1) s.m).take i) s' _ shR tR s0 n1' n2' a nd (tk (P := fun x => (Int.fdiv (at2 (s'.tb .T) k x) (at2 (s'.tb .T) k k)).natAbs < 2 ^ c) i qc)
    have f1 := at_ k k s0 n1' s0 n2'
    rw [if_neg (fun q => by have := a k q; omega)] at f1
    have f2 := at_ k col s0 n1' (by omega) hcol.2
    rw [if_neg (take_notin rng2_nodup hi)] at f2
    have := ww w0 (Nat.le_trans (wl (l := rng2 (k + 1) s.m) i) w1)
    refine ⟨sh, t.sm (by omega), by rw [f1, ekk']; exact nz', by rw [f1, f2, ekk']; exact dv _, ?_⟩
    rw [f1, f2]
    exact ⟨c, by omega, qc col hm⟩
  have ec : m_cleared s k = (rng2 (k + 1) s.m).foldl (clC k) s' := by unfold m_cleared; rw [hs']
  refine ⟨⟨s0, s1, s2, n3, n4, fun i row hi => ?_, fun i col hi => ?_⟩, ?_⟩
  · exact okr i row hi
  · rw [hs']; exact okc i col hi
  · rw [ec]
    exact tC.mono (ww w0 w1)

structure Bd (k : Int) (a : Mx) (c : Nat) : Prop where
  a0 : ∀ i j, k ≤ i → k ≤ j → (a i j).natAbs < 2 ^ c
  a1 : ∀ r c' b, Piv k a r c' → Turn k (swp k r c' a) b → ∀ i j, k ≤ i → k ≤ j → (b i j).natAbs < 2 ^ c
def wD (s : SS) (k : Int) (c : Nat) : Nat := 2 * wT s k c + 2
theorem wT_nm {s z : SS} {k : Int} {c : Nat} (h : z.n = s.n ∧ z.m = s.m) : wT z k c = wT s k c := by unfold wT; rw [h.1, h.2]
theorem okd_of {z : SS} {k : Int} {b c : Nat} (h : Shape z) (s0 : 0 ≤ k) (s1 : k < z.n) (s2 : k < z.m) (n3 : z.n ≤ 1000) (n4 : z.m ≤ 1000) (bd : Bd k (tf z) c) (hc : c ≤ 9000) (tb : TB z b) (hb : b + wD z k c ≤ 67108864) :
    OkD z k ∧ (∀ z', doF k z = .inr z' → TB z' (b + wD z k c)) ∧ ∀ d z', doF k z = .inl (d, z') → TB z' (b + wD z k c) := by
  unfold wD at hb ⊢
  -- a turn
  have one : ∀ h' r c', m_least_from z k = some (h', r, c') → (k ≤ r ∧ r < z.n ∧ k ≤ c' ∧ c' < z.m) ∧ Shape (m_rows_changed z k r) ∧ PCl (swS z k r c') k ∧ Shape (m_cleared (swS z k r c') k) ∧ tf (m_cleared (swS z k r c') k) k k ≠ 0 ∧ (∀ i j, k ≤ i → k ≤ j → (tf (m_cleared (swS z k r c') k) i j).natAbs < 2 ^ c) ∧ TB (m_cleared (swS z k r c') k) (b + wT z k c) := fun h' r c' hm => by
    obtain ⟨⟨pv, r1, c1⟩, _⟩ := piv_some s0 hm
    have r0 := pv.r0
    have c0 := pv.c0
    have hs := shape_swS h s0 s1 s2 (by omega : 0 ≤ r) r1 (by omega : 0 ≤ c') c1
    have es := swp_of h s0 s1 s2 (by omega : 0 ≤ r) r1 (by omega : 0 ≤ c') c1
    have nz : tf (swS z k r c') k k ≠ 0 := by rw [es, swp_kk]; exact pv.nz
    have T := turn_of hs s0 s1 s2 nz
    rw [es] at T
    obtain ⟨p, t⟩ := pcl_of (c := c) (b := b) hs s0 s1 s2 n3 n4 nz (fun i j hi hj => by rw [es]; exact bd.a0 _ _ (sw_ge r0 hi) (sw_ge c0 hj)) hc (tb_swS h tb s0 s1 s2 (by omega) r1 (by omega) c1) (by
      have : wT (swS z k r c') k c = wT z k c := rfl
      rw [this]; omega)
    exact ⟨⟨r0, r1, c0, c1⟩, shape_rows_changed h s0 s1 (by omega) r1, p, shape_cleared hs s0 s1 s2, by rw [T.kk, swp_kk]; exact pv.nz, bd.a1 r c' _ pv T, t⟩
  have two : ∀ h' r c' u, m_least_from z k = some (h', r, c') → m_is_clear (m_cleared (swS z k r c') k) k = true → m_undivided (m_cleared (swS z k r c') k) k = some u →
      PRow (m_cleared (swS z k r c') k) u 1 k ∧ PCl (m_row_to (m_cleared (swS z k r c') k) u 1 k) k ∧ TB (m_cleared (m_row_to (m_cleared (swS z k r c') k) u 1 k) k) (b + (2 * wT z k c + 2)) := fun h' r c' u hm hcl hu => by
    obtain ⟨_, _, _, sh, nz, bb, t⟩ := one h' r c' hm
    have nm := cleared_nm (s := swS z k r c') (step := k)
    have en : (swS z k r c').n = z.n := rfl
    have em : (swS z k r c').m = z.m := rfl
    rw [en, em] at nm
    generalize m_cleared (swS z k r c') k = y at *
    have n1 : k < y.n := by omega
    have n2 : k < y.m := by omega
    obtain ⟨⟨u0, u1⟩, ud⟩ := und_some s0 n1 n2 hu
    have cl := (clr_of s0 n1 n2).mp hcl
    have sh3 := shape_row_to (q := 1) sh (by omega : 0 ≤ u) u1 s0 n1
    have ea := addR_of sh s0 n1 (by omega : 0 ≤ u) u1
    have tr := tb_row_to (q := 1) (c := 1) sh t (by omega : 0 ≤ u) u1 s0 n1 (by decide)
    have ew : wT (m_row_to y u 1 k) k c = wT z k c := wT_nm nm
    obtain ⟨p, t3⟩ := pcl_of (c := c) (b := b + wT z k c + 1 + 1) sh3 s0 n1 n2 (show y.n ≤ 1000 by omega) (show y.m ≤ 1000 by omega) (by rw [ea, cl.addR_kk u0]; exact nz) (fun i j hi hj => by
      rw [ea]
      by_cases ci : i = k
      · subst ci
        by_cases cj : j = i
        · subst cj; rw [cl.addR_kk u0]; exact bb _ _ hi hj
        · rw [cl.addR_k (by omega)]; exact bb _ _ (by omega) hj
      · rw [addR_ne ci]; exact bb i j hi hj) hc tr (by rw [ew]; omega)
    refine ⟨⟨sh, by omega, u1, s0, n1, ⟨1, by decide, by decide⟩, t.sm (by omega)⟩, p, ?_⟩
    rw [ew] at t3
    exact t3.mono (by omega)
  refine ⟨⟨h, fun pl hm => ?_, fun pl hm => ?_, fun pl hm => ?_, fun pl hm => ?_, fun pl u hm hcl hu => ?_⟩, fun z' e => ?_, fun d z' e => ?_⟩
  · exact (one pl.1 pl.2.1 pl.2.2 hm).1
  · exact (one pl.1 pl.2.1 pl.2.2 hm).2.2.1
  · exact (one pl.1 pl.2.1 pl.2.2 hm).2.1
  · obtain ⟨⟨a1, a2, a3, a4⟩, _, p, sh, nz, _⟩ := one pl.1 pl.2.1 pl.2.2 hm
    refine ⟨sh, ?_⟩
    rw [← tf_in s0 (by rw [cleared_nm.1]; exact s1) s0 (by rw [cleared_nm.2]; exact s2)]
    exact nz
  · have := two pl.1 pl.2.1 pl.2.2 u hm hcl hu
    exact ⟨this.1, this.2.1⟩
  · unfold doF at e
    split at e
    · cases e
    · rename_i pl hm
      obtain ⟨h', r, c'⟩ := pl
      dsimp only at e
      split at e
      · rename_i hcl
        split at e
        · cases e
        · rename_i u hu
          cases e
          exact (two h' r c' u hm hcl hu).2.2
      · cases e
        exact (one h' r c' hm).2.2.2.2.2.2.mono (by omega)
  · unfold doF at e
    split at e
    · cases e; exact tb.mono (by omega)
    · rename_i pl hm
      obtain ⟨h', r, c'⟩ := pl
      dsimp only at e
      split at e
      · split at e
        · cases e
          exact (one h' r c' hm).2.2.2.2.2.2.mono (by omega)
        · cases e
      · cases e
theorem whileR_pred {ρ S : Type} {f : S → ρ ⊕ S} : ∀ (n : Nat) {s z' : S}, whileR (n + 1) (fun _ => true) f s = .inr z' → ∃ z, whileR n (fun _ => true) f s = .inr z ∧ f z = .inr z'
  | 0, s, z', h => by
    rw [whileR, if_pos rfl] at h
    cases e : f s with
    | inl r => rw [e] at h; cases h
    | inr y => rw [e] at h; cases h; exact ⟨s, rfl, e⟩
  | n + 1, s, z', h => by
    rw [whileR, if_pos rfl] at h
    cases e : f s with
    | inl r => rw [e] at h; cases h
    | inr y =>
      rw [e] at h
      obtain ⟨z, h1, h2⟩ := whileR_pred n h
      refine ⟨z, ?_, h2⟩
      rw [whileR, if_pos rfl, e]; exact h1
theorem whileR_inl {ρ S : Type} {f : S → ρ ⊕ S} {r : ρ} : ∀ (n : Nat) {s : S}, whileR n (fun _ => true) f s = .inl r → ∃ i z, whileR i (fun _ => true) f s = .inr z ∧ f z = .inl r
  | 0, s, h => by cases h
  | n + 1, s, h => by
    rw [whileR, if_pos rfl] at h
    cases e : f s with
    | inl r' => rw [e] at h; cases h; exact ⟨0, s, rfl, e⟩
    | inr y =>
      rw [e] at h
      obtain ⟨i, z, h1, h2⟩ := whileR_inl n h
      refine ⟨i + 1, z, ?_, h2⟩
      rw [whileR, if_pos rfl, e]; exact h1
abbrev DoI (k : Int) (i : Nat) (s z : SS) : Prop := whileR i (fun _ => true) (doF k) s = .inr z
section
variable {s : SS} {k : Int} (h : Shape s) (s0 : 0 ≤ k) (s1 : k < s.n) (s2 : k < s.m)
include h s0 s1 s2
theorem doI_shape : ∀ (i : Nat) {z : SS}, DoI k i s z → Shape z ∧ z.n = s.n ∧ z.m = s.m
  | 0, z, e => by cases e; exact ⟨h, rfl, rfl⟩
  | i + 1, z, e => by
    obtain ⟨y, e1, e2⟩ := whileR_pred i e
    obtain ⟨a, b, c⟩ := doI_shape i e1
    have := doF_nm e2
    exact ⟨(doF_it a s0 (by omega) (by omega) e2).2, this.1.trans b, this.2.trans c⟩
theorem doI_it {i : Nat} {z : SS} (e : DoI k (i + 1) s z) : ∃ y, DoI k i s y ∧ doF k y = .inr z ∧ It k (tf y) (tf z) := by
  obtain ⟨y, e1, e2⟩ := whileR_pred i e
  obtain ⟨a, b, c⟩ := doI_shape h s0 s1 s2 i e1
  exact ⟨y, e1, e2, (doF_it a s0 (by omega) (by omega) e2).1⟩
theorem doI_fall : ∀ (i : Nat) {z : SS}, DoI k (i + 1) s z → ∃ l, Lst k (tf s) l ∧ (tf z k k).natAbs + i ≤ l
  | 0, z, e => by
    obtain ⟨y, e1, _, it⟩ := doI_it h s0 s1 s2 e
    cases e1
    exact ⟨_, it.kk.1, Nat.le_refl _⟩
  | i + 1, z, e => by
    obtain ⟨y, e1, _, it⟩ := doI_it h s0 s1 s2 e
    obtain ⟨l, hl, le⟩ := doI_fall i e1
    obtain ⟨x, _, _, it0⟩ := doI_it h s0 s1 s2 e1
    obtain ⟨p, q, g1, g2, g3, g4⟩ := it0.low
    have := it.kk.1.le p q g1 g2 g3
    exact ⟨l, hl, by omega⟩
theorem do_ends (z : SS) : ¬ DoI k (doN s k) s z := by
  intro e
  unfold doN at e
  cases hm : m_least_from s k with
  | none =>
    rw [hm] at e
    have e : DoI k (0 + 1) s z := e
    obtain ⟨l, hl, _⟩ := doI_fall h s0 s1 s2 0 e
    obtain ⟨i, j, a1, a2, a3, _⟩ := hl.at_
    exact a3 (piv_none s0 hm a1 a2)
  | some pl =>
    rw [hm] at e
    obtain ⟨h', r, c⟩ := pl
    obtain ⟨⟨pv, _, _⟩, eh⟩ := piv_some s0 hm
    have e : DoI k (h'.toNat + 1) s z := e
    obtain ⟨l, hl, le⟩ := doI_fall h s0 s1 s2 _ e
    have := hl.same pv.lst
    obtain ⟨y, _, _, it⟩ := doI_it h s0 s1 s2 e
    have := it.kk.2
    omega
end
theorem stage {s : SS} {k : Int} {N c b : Nat} (h : Shape s) (s0 : 0 ≤ k) (s1 : k < s.n) (s2 : k < s.m) (n3 : s.n ≤ 1000) (n4 : s.m ≤ 1000) (tb : TB s b) (hc : c ≤ 9000)
    (hN : ∀ i z, DoI k i s z → i < N ∧ Bd k (tf z) c) (hb : b + N * wD s k c ≤ 67108864) :
    PDo s k ∧ TB (m_do s k).2 (b + N * wD s k c) ∧ ∃ i z, DoI k i s z ∧ doF k z = .inl (m_do s k) := by
  have sh := fun i {z} e => doI_shape h s0 s1 s2 i (z := z) e
  have ew : ∀ {z : SS}, z.n = s.n ∧ z.m = s.m → wD z k c = wD s k c := fun q => by unfold wD; rw [wT_nm q]
  have inv : ∀ i z, DoI k i s z → TB z (b + i * wD s k c) := by
    intro i
    induction i with
    | zero => intro z e; cases e; simpa using tb
    | succ i ih =>
      intro z e
      obtain ⟨y, e1, e2⟩ := whileR_pred i e
      obtain ⟨a1, a2, a3⟩ := sh i e1
      obtain ⟨iN, bd⟩ := hN i y e1
      have iN2 := (hN (i + 1) z e).1
      have le : (i + 1) * wD s k c ≤ N * wD s k c := Nat.mul_le_mul_right _ (by omega)
      rw [Nat.add_mul, Nat.one_mul] at le ⊢
      have := (okd_of a1 s0 (by omega) (by omega) (by omega) (by omega) bd hc (ih y e1) (by rw [ew ⟨a2, a3⟩]; omega)).2.1 z e2
      rw [ew ⟨a2, a3⟩] at this
      exact this.mono (by omega)
  have ok : ∀ i z, DoI k i s z → OkD z k ∧ ∀ d z', doF k z = .inl (d, z') → TB z' (b + N * wD s k c) := fun i z e => by
    obtain ⟨a1, a2, a3⟩ := sh i e
    obtain ⟨iN, bd⟩ := hN i z e
    have le : (i + 1) * wD s k c ≤ N * wD s k c := Nat.mul_le_mul_right _ (by omega)
    rw [Nat.add_mul, Nat.one_mul] at le
    have := okd_of a1 s0 (by omega) (by omega) (by omega) (by omega) bd hc (inv i z e) (by rw [ew ⟨a2, a3⟩]; omega)
    rw [ew ⟨a2, a3⟩] at this
    exact ⟨this.1, fun d z' e => (this.2.2 d z' e).mono (by omega)⟩
  have en := do_ends h s0 s1 s2
  have fin : ∃ i z, DoI k i s z ∧ doF k z = .inl (m_do s k) := by
    unfold m_do
    cases e : whileR (doN s k) (fun _ => true) (doF k) s with
    | inr z => exact absurd e (en z)
    | inl r => exact whileR_inl _ e
  refine ⟨⟨s0, s1, s2, n3, n4, fun i z _ e => (ok i z e).1, en⟩, ?_, fin⟩
  obtain ⟨i, z, e1, e2⟩ := fin
  exact (ok i z e1).2 (m_do s k).1 (m_do s k).2 e2

theorem d2_abs {a : Mx} {k : Int} {M : Nat} (h : ∀ i j, k ≤ i → k ≤ j → (a i j).natAbs ≤ M) {i1 i2 j1 j2 : Int} (h1 : k ≤ i1) (h2 : k ≤ i2) (h3 : k ≤ j1) (h4 : k ≤ j2) : (d2 a i1 i2 j1 j2).natAbs ≤ 2 * (M * M) := by
  have := nab_two (h i1 j1 h1 h3) (h i2 j2 h2 h4) (h i1 j2 h1 h4) (h i2 j1 h2 h3)
  unfold d2
  omega
theorem d3_abs {a : Mx} {k : Int} {M : Nat} (h : ∀ i j, k ≤ i → k ≤ j → (a i j).natAbs ≤ M) {i1 i2 i3 j1 j2 j3 : Int} (g1 : k ≤ i1) (g2 : k ≤ i2) (g3 : k ≤ i3) (h1 : k ≤ j1) (h2 : k ≤ j2) (h3 : k ≤ j3) : (d3 a i1 i2 i3 j1 j2 j3).natAbs ≤ 6 * (M * M * M) := by
  have e : ∀ {x y : Int}, x.natAbs ≤ M → y.natAbs ≤ 2 * (M * M) → (x * y).natAbs ≤ 2 * (M * M * M) := fun h1 h2 => by
    refine Nat.le_trans (nab_mul h1 h2) ?_
    rw [Nat.mul_left_comm, Nat.mul_comm M (M * M)]; exact Nat.le_refl _
  have := nab_add (nab_sub (e (h i1 j1 g1 h1) (d2_abs h g2 g3 h2 h3)) (e (h i1 j2 g1 h2) (d2_abs h g2 g3 h1 h3))) (e (h i1 j3 g1 h3) (d2_abs h g2 g3 h1 h2))
  unfold d3
  omega
theorem mb_of {a : Mx} {k : Int} {M : Nat} (h : ∀ i j, k ≤ i → k ≤ j → (a i j).natAbs ≤ M) : MB k a M (2 * (M * M)) (6 * (M * M * M)) ∧ (Dt k a).natAbs ≤ 6 * (M * M * M) := by
  have k0 := Int.le_refl k
  exact ⟨⟨h, fun i1 i2 j1 j2 => d2_abs h, fun i1 i2 j1 j2 h1 h2 h3 h4 => d3_abs h k0 (by omega) (by omega) k0 (by omega) (by omega)⟩, d3_abs h k0 (by omega) (by omega) k0 (by omega) (by omega)⟩
theorem zn_of {s : SS} {N k : Int} (h1 : s.n ≤ k + N) (h2 : s.m ≤ k + N) : ZN N k (tf s) := fun i j hi hj h => tf_out (by omega)
structure SA (k : Int) (a : Mx) (M3 : Nat) (e : Nat) : Prop where
  m : ∃ M1 M2, MB k a M1 M2 M3 ∧ M1 ≤ 2 ^ e ∧ 3 * M2 + M3 ≤ 2 ^ e
  d : (Dt k a).natAbs ≤ M3
  z : Z3 k a
theorem SA.it {k : Int} {a b : Mx} {M3 e : Nat} (h : SA k a M3 e) (it : It k a b) : SA k b M3 (e + 4) := by
  obtain ⟨⟨M1, M2, hm, h1, h2⟩, hd, hz⟩ := h
  obtain ⟨t1, t2, t3⟩ := it.mb3 hz hm hd
  refine ⟨⟨_, _, t1, ?_, ?_⟩, t2, t3⟩
  · have : 2 ^ (e + 4) = 16 * 2 ^ e := by rw [Nat.pow_add, Nat.mul_comm]
    omega
  · have : 2 ^ (e + 4) = 16 * 2 ^ e := by rw [Nat.pow_add, Nat.mul_comm]
    omega
theorem SA.turn {k : Int} {a b : Mx} {M3 e : Nat} {r c : Int} (h : SA k a M3 e) (pv : Piv k a r c) (T : Turn k (swp k r c a) b) : (∀ i j, k ≤ i → k ≤ j → (b i j).natAbs ≤ 2 ^ (e + 1)) ∧ ∀ i1 i2 j1 j2, k ≤ i1 → k ≤ i2 → k ≤ j1 → k ≤ j2 → (d2 b i1 i2 j1 j2).natAbs ≤ 2 ^ (e + 1) := by
  obtain ⟨⟨M1, M2, hm, h1, h2⟩, hd, hz⟩ := h
  obtain ⟨p1, p2⟩ := hz.piv pv
  obtain ⟨s1, s2⟩ := Z3.mbswp hz hm hd pv.r0 p1 pv.c0 p2
  have t := T.mb s1
  have e2 : 2 ^ (e + 1) = 2 * 2 ^ e := by rw [Nat.pow_add, Nat.mul_comm]
  refine ⟨fun i j hi hj => Nat.le_trans (t.m1 i j hi hj) (by omega), fun i1 i2 j1 j2 a1 a2 a3 a4 => Nat.le_trans (t.m2 i1 i2 j1 j2 a1 a2 a3 a4) (by omega)⟩
theorem endnm {d : Bool} {z z' : SS} {k : Int} (e : doF k z = .inl (d, z')) : z'.n = z.n ∧ z'.m = z.m := by
  unfold doF at e
  split at e
  · cases e; exact ⟨rfl, rfl⟩
  · split at e
    · split at e
      · cases e; exact ⟨cleared_nm.1, cleared_nm.2⟩
      · cases e
    · cases e
section
variable {s : SS} {k : Int} (h : Shape s) (s0 : 0 ≤ k) (s1 : k < s.n) (s2 : k < s.m)
include h s0 s1 s2
theorem doI_SA {M3 e : Nat} (a : SA k (tf s) M3 e) : ∀ (i : Nat) {z : SS}, DoI k i s z → SA k (tf z) M3 (e + 4 * i)
  | 0, z, q => by cases q; exact a
  | i + 1, z, q => by
    obtain ⟨y, e1, e2, it⟩ := doI_it h s0 s1 s2 q
    exact (doI_SA a i e1).it it
theorem doI_few {L : Nat} (hL : ∀ i j, k ≤ i → k ≤ j → (tf s i j).natAbs ≤ L) {i : Nat} {z : SS} (q : DoI k i s z) : i < L + 1 := by
  cases i with
  | zero => omega
  | succ i =>
    obtain ⟨l, hl, le⟩ := doI_fall h s0 s1 s2 i q
    obtain ⟨y, e1, e2, it⟩ := doI_it h s0 s1 s2 q
    have := it.kk.2
    obtain ⟨x, y, a1, a2, a3, a4⟩ := hl.at_
    have := hL x y a1 a2
    omega
theorem stageA {b : Nat} (n3 : s.n ≤ k + 3) (n4 : s.m ≤ k + 3) (k1 : k ≤ 100) (tb : TB s b) (hL : ∀ i j, k ≤ i → k ≤ j → (tf s i j).natAbs ≤ 360) (hb : b + 4300000 ≤ 67108864) :
    PDo s k ∧ TB (m_do s k).2 (b + 4300000) ∧ Shape (m_do s k).2 ∧ ((m_do s k).2.n = s.n ∧ (m_do s k).2.m = s.m) ∧ ((m_do s k).1 = true → (∀ i j, k ≤ i → k ≤ j → (tf (m_do s k).2 i j).natAbs ≤ 2 ^ 1470) ∧ (∀ i1 i2 j1 j2, k ≤ i1 → k ≤ i2 → k ≤ j1 → k ≤ j2 → (d2 (tf (m_do s k).2) i1 i2 j1 j2).natAbs ≤ 2 ^ 1470) ∧ Clr k (tf (m_do s k).2) ∧ tf (m_do s k).2 k k ≠ 0) := by
  have sa : SA k (tf s) (6 * (360 * 360 * 360)) 29 := by
    obtain ⟨m, d⟩ := mb_of hL
    exact ⟨⟨_, _, m, by decide, by decide⟩, d, zn_of n3 n4⟩
  have inv := fun i {z} q => doI_SA h s0 s1 s2 sa i (z := z) q
  have few := fun {i z} q => doI_few h s0 s1 s2 hL (i := i) (z := z) q
  have pw : ∀ {i : Nat}, i < 361 → 2 ^ (29 + 4 * i + 1) ≤ 2 ^ 1470 := fun h => Nat.pow_le_pow_right (by decide) (by omega)
  have w : wD s k 1471 ≤ 11780 := by
    unfold wD wT
    have : (s.n - (k + 1)).toNat + (s.m - (k + 1)).toNat ≤ 4 := by omega
    have := Nat.mul_le_mul_right (1471 + 1) this
    omega
  have w2 : 361 * wD s k 1471 ≤ 4300000 := Nat.le_trans (Nat.mul_le_mul_left 361 w) (by decide)
  have t := stage (N := 361) (c := 1471) h s0 s1 s2 (by omega) (by omega) tb (by decide) (fun i z q => ⟨few q, ⟨fun i' j' hi hj => ?_, fun r c' b' pv T i' j' hi hj => ?_⟩⟩) (by omega)
  · obtain ⟨p, tb', i, z, q1, q2⟩ := t
    obtain ⟨a1, a2, a3⟩ := doI_shape h s0 s1 s2 i q1
    obtain ⟨c1, c2, c3⟩ := doF_end (d := (m_do s k).1) (z := (m_do s k).2) a1 s0 (by omega) (by omega) q2
    refine ⟨p, tb'.mono (by omega), c1, ?_, fun hd => ?_⟩
    · cases hd : (m_do s k).1 with
      | false => rw [(c2 hd).1]; exact ⟨a2, a3⟩
      | true =>
        have := endnm (d := (m_do s k).1) (z' := (m_do s k).2) q2
        omega
    · obtain ⟨r, c, pv, T, cl, dv⟩ := c3 hd
      have := (inv i q1).turn (r := r) (c := c) pv T
      refine ⟨fun i' j' hi hj => Nat.le_trans (this.1 i' j' hi hj) (pw (few q1)), fun i1 i2 j1 j2 b1 b2 b3 b4 => Nat.le_trans (this.2 i1 i2 j1 j2 b1 b2 b3 b4) (pw (few q1)), cl, ?_⟩
      rw [T.kk, swp_kk]; exact pv.nz
  · obtain ⟨⟨M1, M2, hm, h1, h2⟩, hd, hz⟩ := inv i q
    have := hm.m1 i' j' hi hj
    have e2 : 2 ^ (29 + 4 * i + 1) = 2 * 2 ^ (29 + 4 * i) := by rw [Nat.pow_add, Nat.mul_comm]
    have := pw (few q)
    have : 0 < 2 ^ (29 + 4 * i) := Nat.two_pow_pos _
    have : (2 : Nat) ^ 1470 < 2 ^ 1471 := Nat.pow_lt_pow_right (by decide) (by decide)
    omega
  · have := ((inv i q).turn (r := r) (c := c') pv T).1 i' j' hi hj
    have := pw (few q)
    have : (2 : Nat) ^ 1470 < 2 ^ 1471 := Nat.pow_lt_pow_right (by decide) (by decide)
    omega
theorem doI_B2 {M D : Nat} (a : B2 k (tf s) M D) : ∀ (i : Nat) {z : SS}, DoI k i s z → B2 k (tf z) (M + i * (2 * D)) D
  | 0, z, q => by cases q; rw [Nat.zero_mul]; exact a
  | i + 1, z, q => by
    obtain ⟨y, e1, e2, it⟩ := doI_it h s0 s1 s2 q
    have := it.m2 (doI_B2 a i e1)
    rw [Nat.add_mul, Nat.one_mul, ← Nat.add_assoc]; exact this
theorem doI_half (z2 : Z2 k (tf s)) {M D : Nat} (a : B2 k (tf s) M D) : ∀ (i : Nat) {z : SS}, DoI k (3 * i + 1) s z → ∃ l, Lst k (tf s) l ∧ 2 ^ i * (tf z k k).natAbs ≤ l
  | 0, z, q => by
    obtain ⟨l, h1, h2⟩ := doI_fall h s0 s1 s2 0 q
    exact ⟨l, h1, by omega⟩
  | i + 1, z, q => by
    have q : DoI k (3 * i + 1 + 1 + 1 + 1) s z := q
    obtain ⟨y2, e2, _, it2⟩ := doI_it h s0 s1 s2 q
    obtain ⟨y1, e1, _, it1⟩ := doI_it h s0 s1 s2 e2
    obtain ⟨y0, e0, _, it0⟩ := doI_it h s0 s1 s2 e1
    obtain ⟨x, _, _, itx⟩ := doI_it h s0 s1 s2 e0
    obtain ⟨l, h1, h2⟩ := doI_half z2 a i e0
    have b0 := (doI_B2 h s0 s1 s2 a _ e0).z
    have := half2 b0 itx.post it0 it1 it2.kk.1
    refine ⟨l, h1, Nat.le_trans ?_ h2⟩
    rw [Nat.pow_succ, Nat.mul_assoc]
    exact Nat.mul_le_mul_left _ this
theorem doI_log {M D e : Nat} (a : B2 k (tf s) M D) (hM : M < 2 ^ e) {i : Nat} {z : SS} (q : DoI k i s z) : i < 3 * e + 1 := by
  refine Classical.byContradiction fun c => ?_
  have pre : ∀ (n : Nat) {m : Nat} {z : SS}, DoI k (m + n) s z → ∃ y, DoI k m s y := by
    intro n
    induction n with
    | zero => intro m z q; exact ⟨z, q⟩
    | succ n ih =>
      intro m z q
      obtain ⟨y, e1, _⟩ := whileR_pred (m + n) q
      exact ih e1
  obtain ⟨y, hy⟩ := pre (i - (3 * e + 1)) (m := 3 * e + 1) (z := z) (by rw [show 3 * e + 1 + (i - (3 * e + 1)) = i by omega]; exact q)
  obtain ⟨l, h1, h2⟩ := doI_half h s0 s1 s2 a.z a e hy
  obtain ⟨x, _, _, itx⟩ := doI_it h s0 s1 s2 hy
  have nz := itx.kk.2
  obtain ⟨u, v, a1, a2, a3, a4⟩ := h1.at_
  have := a.m u v a1 a2
  have : 2 ^ e ≤ 2 ^ e * (tf y k k).natAbs := Nat.le_mul_of_pos_right _ (by omega)
  omega
theorem stageB {b : Nat} (n3 : s.n ≤ k + 2) (n4 : s.m ≤ k + 2) (k1 : k ≤ 100) (tb : TB s b) (hM : ∀ i j, k ≤ i → k ≤ j → (tf s i j).natAbs ≤ 2 ^ 1470) (hD : (D2 k (tf s)).natAbs ≤ 2 ^ 1470) (hb : b + 26300000 ≤ 67108864) :
    PDo s k ∧ TB (m_do s k).2 (b + 26300000) ∧ Shape (m_do s k).2 ∧ ((m_do s k).2.n = s.n ∧ (m_do s k).2.m = s.m) ∧ ((m_do s k).1 = true → (∀ i j, k ≤ i → k ≤ j → (tf (m_do s k).2 i j).natAbs ≤ 2 ^ 1485) ∧ Clr k (tf (m_do s k).2) ∧ tf (m_do s k).2 k k ≠ 0) := by
  have sa : B2 k (tf s) (2 ^ 1470) (2 ^ 1470) := ⟨zn_of n3 n4, hM, hD⟩
  have inv := fun i {z} q => doI_B2 h s0 s1 s2 sa i (z := z) q
  have few := fun {i z} q => doI_log (e := 1471) h s0 s1 s2 sa (Nat.pow_lt_pow_right (by decide) (by decide)) (i := i) (z := z) q
  have p15 : (2 : Nat) ^ 1485 = 2 ^ 1470 * 32768 := by rw [show 1485 = 1470 + 15 by rfl, Nat.pow_add]
  have pw : ∀ {i : Nat}, i < 4414 → 2 ^ 1470 + i * (2 * 2 ^ 1470) + 2 ^ 1470 ≤ 2 ^ 1485 := fun {i} h => by
    rw [p15]
    generalize 2 ^ 1470 = x
    have : i * (2 * x) ≤ 4414 * (2 * x) := Nat.mul_le_mul_right _ (by omega)
    omega
  have lt : (2 : Nat) ^ 1485 < 2 ^ 1486 := Nat.pow_lt_pow_right (by decide) (by decide)
  have tn : ∀ {i : Nat} {z : SS} {r c : Int} {b : Mx}, DoI k i s z → Piv k (tf z) r c → Turn k (swp k r c (tf z)) b → ∀ i' j', k ≤ i' → k ≤ j' → (b i' j').natAbs ≤ 2 ^ 1485 := fun {i z r c b} q pv T i' j' hi hj => by
    have := (((inv i q).swp pv).turn T).m i' j' hi hj
    exact Nat.le_trans this (pw (few q))
  have w : wD s k 1486 ≤ 5952 := by
    unfold wD wT
    have : (s.n - (k + 1)).toNat + (s.m - (k + 1)).toNat ≤ 2 := by omega
    have := Nat.mul_le_mul_right (1486 + 1) this
    omega
  have w2 : 4414 * wD s k 1486 ≤ 26300000 := Nat.le_trans (Nat.mul_le_mul_left 4414 w) (by decide)
  have t := stage (N := 4414) (c := 1486) h s0 s1 s2 (by omega) (by omega) tb (by decide) (fun i z q => ⟨few q, ⟨fun i' j' hi hj => ?_, fun r c' b' pv T i' j' hi hj => Nat.lt_of_le_of_lt (tn q pv T i' j' hi hj) lt⟩⟩) (by omega)
  · obtain ⟨p, tb', i, z, q1, q2⟩ := t
    obtain ⟨a1, a2, a3⟩ := doI_shape h s0 s1 s2 i q1
    obtain ⟨c1, c2, c3⟩ := doF_end (d := (m_do s k).1) (z := (m_do s k).2) a1 s0 (by omega) (by omega) q2
    have nm := endnm (d := (m_do s k).1) (z' := (m_do s k).2) q2
    refine ⟨p, tb'.mono (by omega), c1, by omega, fun hd => ?_⟩
    obtain ⟨r, c, pv, T, cl, dv⟩ := c3 hd
    exact ⟨tn q1 pv T, cl, by rw [T.kk, swp_kk]; exact pv.nz⟩
  · have := (inv i q).m i' j' hi hj
    have := pw (few q)
    omega
theorem stageC {b : Nat} (n3 : s.n ≤ k + 1) (n4 : s.m ≤ k + 1) (k1 : k ≤ 100) (tb : TB s b) (hM : ∀ i j, k ≤ i → k ≤ j → (tf s i j).natAbs ≤ 2 ^ 1485) (hb : b + 2 ≤ 67108864) :
    PDo s k ∧ TB (m_do s k).2 (b + 2) ∧ Shape (m_do s k).2 ∧ ((m_do s k).2.n = s.n ∧ (m_do s k).2.m = s.m) ∧ ((m_do s k).1 = true → tf (m_do s k).2 k k ≠ 0 ∧ (tf (m_do s k).2 k k).natAbs ≤ 2 ^ 1485) := by
  have z1 := zn_of (N := 1) n3 n4
  have few : ∀ {i z}, DoI k i s z → i = 0 ∧ z = s := fun {i z} q => by
    cases i with
    | zero => cases q; exact ⟨rfl, rfl⟩
    | succ i =>
      exfalso
      have pre : ∀ (n : Nat) {z : SS}, DoI k (n + 1) s z → ∃ y, DoI k 1 s y := by
        intro n
        induction n with
        | zero => intro z q; exact ⟨z, q⟩
        | succ n ih =>
          intro z q
          obtain ⟨y, e1, _⟩ := whileR_pred (n + 1) q
          exact ih e1
      obtain ⟨y, hy⟩ := pre i q
      obtain ⟨x, e1, _, it⟩ := doI_it h s0 s1 s2 hy
      cases e1
      exact it.not1 z1
  have lt : (2 : Nat) ^ 1485 < 2 ^ 1486 := Nat.pow_lt_pow_right (by decide) (by decide)
  have w : wD s k 1486 = 2 := by
    unfold wD wT
    rw [show (s.n - (k + 1)).toNat + (s.m - (k + 1)).toNat = 0 by omega]
  have t := stage (N := 1) (c := 1486) h s0 s1 s2 (by omega) (by omega) tb (by decide) (fun i z q => ⟨by have := few q; omega, ⟨fun i' j' hi hj => ?_, fun r c' b' pv T i' j' hi hj => ?_⟩⟩) (by omega)
  · obtain ⟨p, tb', i, z, q1, q2⟩ := t
    obtain ⟨a1, a2, a3⟩ := doI_shape h s0 s1 s2 i q1
    obtain ⟨c1, c2, c3⟩ := doF_end (d := (m_do s k).1) (z := (m_do s k).2) a1 s0 (by omega) (by omega) q2
    have nm := endnm (d := (m_do s k).1) (z' := (m_do s k).2) q2
    refine ⟨p, tb'.mono (by omega), c1, by omega, fun hd => ?_⟩
    obtain ⟨r, c, pv, T, cl, dv⟩ := c3 hd
    rw [T.kk, swp_kk]
    refine ⟨pv.nz, ?_⟩
    have := hM r c pv.r0 pv.c0
    rw [(few q1).2]; exact this
  · rw [(few q).2]
    exact Nat.lt_of_le_of_lt (hM i' j' hi hj) lt
  · rw [(few q).2] at pv T
    obtain ⟨p1, p2⟩ := z1.piv pv
    have zb := (z1.swp pv.r0 p1 pv.c0 p2).turn T (by omega)
    by_cases ci : i' = k
    · by_cases cj : j' = k
      · rw [ci, cj, T.kk, swp_kk]
        exact Nat.lt_of_le_of_lt (hM _ _ pv.r0 pv.c0) lt
      · rw [zb i' j' hi hj (.inr (by omega))]; exact Nat.two_pow_pos _
    · rw [zb i' j' hi hj (.inl (by omega))]; exact Nat.two_pow_pos _
end

section
variable {s : SS} {k : Int} (h : Shape s) (s0 : 0 ≤ k) (s1 : k < s.n) (s2 : k < s.m)
include h s0 s1 s2
end

def negS (s : SS) (k : Int) : SS := if decide (at2 (s.tb .T) k k < 0) = true then m_row_contrary s k else s
theorem negS_shape {s : SS} {k : Int} (h : Shape s) (k0 : 0 ≤ k) (k1 : k < s.n) : Shape (negS s k) := by
  unfold negS
  split
  · exact shape_row_contrary h k0 k1
  · exact h
theorem negS_nm {s : SS} {k : Int} : (negS s k).n = s.n ∧ (negS s k).m = s.m := by
  unfold negS
  split <;> exact ⟨rfl, rfl⟩
theorem negS_tb {s : SS} {k : Int} {b : Nat} (h : Shape s) (tb : TB s b) (k0 : 0 ≤ k) (k1 : k < s.n) : TB (negS s k) b := by
  unfold negS
  split
  · exact tb_contrary h tb k0 k1
  · exact tb
theorem tf_contrary {s : SS} {a i j : Int} (h : Shape s) (a0 : 0 ≤ a) (a1 : a < s.n) : tf (m_row_contrary s a) i j = if i = a then -tf s i j else tf s i j := by
  by_cases c : (0 ≤ i ∧ i < s.n) ∧ 0 ≤ j ∧ j < s.m
  · have e : tf (m_row_contrary s a) i j = at2 (rNeg (s.tb .T) a) i j := tf_in (s := m_row_contrary s a) c.1.1 c.1.2 c.2.1 c.2.2
    rw [e, at2_rNeg h.T a0 a1 c.1.1 c.1.2 c.2.1 c.2.2, tf_in c.1.1 c.1.2 c.2.1 c.2.2]
    split
    · rename_i e; rw [e]
    · rfl
  · have e : tf (m_row_contrary s a) i j = 0 := tf_out (s := m_row_contrary s a) c
    rw [e, tf_out c]
    split <;> rfl
theorem negS_tf {s : SS} {k i j : Int} (h : Shape s) (k0 : 0 ≤ k) (k1 : k < s.n) (hi : k < i) : tf (negS s k) i j = tf s i j := by
  unfold negS
  split
  · rw [tf_contrary h k0 k1, if_neg (by omega)]
  · rfl
theorem negS_kk {s : SS} {k : Int} (h : Shape s) (k0 : 0 ≤ k) (k1 : k < s.n) (k2 : k < s.m) (nz : tf s k k ≠ 0) : 0 < at2 ((negS s k).tb .T) k k := by
  have e : at2 ((negS s k).tb .T) k k = tf (negS s k) k k := (tf_in (s := negS s k) k0 (by rw [negS_nm.1]; exact k1) k0 (by rw [negS_nm.2]; exact k2)).symm
  rw [e]
  have e2 := tf_in (s := s) k0 k1 k0 k2
  unfold negS
  split
  · rename_i c
    rw [tf_contrary h k0 k1, if_pos rfl]
    have := of_decide_eq_true c
    omega
  · rename_i c
    have : ¬ (at2 (s.tb .T) k k < 0) := fun q => c (decide_eq_true q)
    omega
theorem negS_abs {s : SS} {k : Int} (h : Shape s) (k0 : 0 ≤ k) (k1 : k < s.n) (k2 : k < s.m) : (at2 ((negS s k).tb .T) k k).natAbs = (tf s k k).natAbs := by
  have e : at2 ((negS s k).tb .T) k k = tf (negS s k) k k := (tf_in (s := negS s k) k0 (by rw [negS_nm.1]; exact k1) k0 (by rw [negS_nm.2]; exact k2)).symm
  rw [e]
  unfold negS
  split
  · rw [tf_contrary h k0 k1, if_pos rfl, Int.natAbs_neg]
  · rfl
theorem le9 {x e : Nat} (h : x ≤ 2 ^ e) (he : e < 9000) : x < 2 ^ 9000 := Nat.lt_of_le_of_lt h (Nat.pow_lt_pow_right (by decide) he)
structure StepJ (s : SS) (J : Int → SS → Prop) (B : Nat) (k : Int) (z : SS) : Prop where
  pd : PDo z k
  sh : Shape (m_do z k).2
  n : (m_do z k).2.n = s.n
  m : (m_do z k).2.m = s.m
  tb : TB (m_do z k).2 B
  go : (m_do z k).1 = true → (tf (m_do z k).2 k k ≠ 0 ∧ (tf (m_do z k).2 k k).natAbs < 2 ^ 9000) ∧ J (k + 1) (negS (m_do z k).2 k)
structure KeepJ (s : SS) (B : Nat) (z : SS) : Prop where
  sh : Shape z
  n : z.n = s.n
  m : z.m = s.m
  tb : TB z B
structure PapB (s : SS) (B : Nat) : Prop where
  sh : Shape (m_paper s).1
  n : (m_paper s).1.n = s.n
  m : (m_paper s).1.m = s.m
  tb : TB (m_paper s).1 B
  st : ∀ d ∈ (m_paper s).2, 0 < d ∧ d.natAbs < 2 ^ 9000
  ln : ((m_paper s).2.length : Int) ≤ s.n ∧ ((m_paper s).2.length : Int) ≤ s.m
theorem paper_law {s : SS} {J : Int → SS → Prop} {B : Nat} (n0 : 0 ≤ s.n) (m0 : 0 ≤ s.m) (n1 : s.n ≤ 1000) (m1 : s.m ≤ 1000) (hJ0 : J 0 s) (hk : ∀ k z, J k z → KeepJ s B z)
    (hst : ∀ k z, 0 ≤ k → J k z → k < s.n → k < s.m → StepJ s J B k z) : PPa s ∧ PapB s B ∧ ∃ k : Int, ∃ z, 0 ≤ k ∧ J k z ∧ (m_paper s).2.length = k.toNat ∧ ((k < mnS z ∧ (m_do z k).1 = false ∧ (m_paper s).1 = (m_do z k).2) ∨ (¬ k < mnS z ∧ (m_paper s).1 = z)) := by
  have mn : ∀ {z : SS}, z.n = s.n → z.m = s.m → mnS z = mnS s := fun a b => by unfold mnS; rw [a, b]
  have mn0 : 0 ≤ mnS s ∧ mnS s ≤ s.n ∧ mnS s ≤ s.m := by unfold mnS; split <;> omega
  have inv : ∀ (i : Nat) (z : PSt), whileR i paT paF (s, [], 0) = .inr z → (0 ≤ z.2.2 ∧ z.2.2 ≤ mnS s) ∧ J z.2.2 z.1 ∧ z.2.1.length = z.2.2.toNat ∧ (∀ d ∈ z.2.1, 0 < d ∧ d.natAbs < 2 ^ 9000) ∧ (z.2.2 = i ∨ paT z = false) := by
    intro i
    induction i with
    | zero =>
      intro z e
      cases e
      exact ⟨⟨Int.le_refl _, mn0.1⟩, hJ0, rfl, fun d hd => absurd hd List.not_mem_nil, .inl rfl⟩
    | succ i ih =>
      intro z e
      cases e0 : whileR i paT paF (s, [], 0) with
      | inl r =>
        exfalso
        have : ∀ (n : Nat) (s : PSt) (r : Unit), whileR n paT paF s ≠ .inl r := by
          intro n
          induction n with
          | zero => intro s r q; cases q
          | succ n ih =>
            intro s r q
            rw [whileR] at q
            split at q
            · exact ih _ _ q
            · cases q
        exact this _ _ _ e0
      | inr y =>
        obtain ⟨⟨a1, a2⟩, a3, a4, a5, a6⟩ := ih y e0
        rw [whileR_succ _ _ _ _ _ e0] at e
        split at e
        · rename_i ht
          cases e
          have ht' := Bool.and_eq_true_iff.mp ht
          have kk := hk _ _ a3
          have lt := of_decide_eq_true ht'.1
          rw [mn kk.n kk.m] at lt
          have st := hst _ _ a1 a3 (by omega) (by omega)
          obtain ⟨g1, g2⟩ := st.go ht'.2
          have eG : paG y = (m_do y.1 y.2.2).2 := if_pos ht'.1
          have eS : paS y = negS (m_do y.1 y.2.2).2 y.2.2 := by unfold paS negS; rw [eG]
          have ey : y.2.2 = i := a6.resolve_right (by rw [ht]; decide)
          show (0 ≤ y.2.2 + 1 ∧ y.2.2 + 1 ≤ mnS s) ∧ J (y.2.2 + 1) (paS y) ∧ (y.2.1 ++ [at2 ((paS y).tb .T) y.2.2 y.2.2]).length = (y.2.2 + 1).toNat ∧ _ ∧ (y.2.2 + 1 = ((i + 1 : Nat) : Int) ∨ _)
          rw [eS]
          have k1 : y.2.2 < (m_do y.1 y.2.2).2.n := by rw [st.n]; omega
          have k2 : y.2.2 < (m_do y.1 y.2.2).2.m := by rw [st.m]; omega
          refine ⟨⟨by omega, by omega⟩, g2, by rw [List.length_append, List.length_singleton]; omega, fun d hd => ?_, .inl (by omega)⟩
          rcases List.mem_append.mp hd with hd | hd
          · exact a5 d hd
          · rw [List.mem_singleton.mp hd]
            refine ⟨negS_kk st.sh a1 k1 k2 g1.1, ?_⟩
            rw [negS_abs st.sh a1 k1 k2]; exact g1.2
        · rename_i ht
          cases e
          exact ⟨⟨a1, a2⟩, a3, a4, a5, .inr (by simpa using ht)⟩
  have pN : ((paN s : Nat) : Int) = mnS s + 1 := by unfold paN; omega
  have okp : ∀ (i : Nat) (z : PSt), whileR i paT paF (s, [], 0) = .inr z → OkP z := fun i z e => by
    obtain ⟨⟨a1, a2⟩, a3, a4, a5, a6⟩ := inv i z e
    have kk := hk _ _ a3
    have em := mn kk.n kk.m
    refine ⟨a1, by omega, fun lt => ?_, fun lt hd => ?_⟩
    · rw [em] at lt
      exact (hst _ _ a1 a3 (by omega) (by omega)).pd
    · have eG : paG z = (m_do z.1 z.2.2).2 := if_pos (decide_eq_true lt)
      have eS : paS z = negS (m_do z.1 z.2.2).2 z.2.2 := by unfold paS negS; rw [eG]
      rw [em] at lt
      have st := hst _ _ a1 a3 (by omega) (by omega)
      have k1 : z.2.2 < (m_do z.1 z.2.2).2.n := by rw [st.n]; omega
      have k2 : z.2.2 < (m_do z.1 z.2.2).2.m := by rw [st.m]; omega
      rw [eS, eG]
      exact ⟨st.sh, k1, k2, negS_shape st.sh a1 k1, by rw [negS_nm.1]; exact k1, by rw [negS_nm.2]; exact k2⟩
  have en : ∀ z, whileR (paN s) paT paF (s, [], 0) = .inr z → paT z = false := fun z e => by
    obtain ⟨⟨a1, a2⟩, a3, a4, a5, a6⟩ := inv _ z e
    exact a6.resolve_left (by omega)
  refine ⟨⟨fun i z _ e => okp i z e, en⟩, ?_⟩
  have fin : ∃ z, whileR (paN s) paT paF (s, [], 0) = .inr z ∧ m_paper s = (paG z, z.2.1) := by
    unfold m_paper
    cases e : whileR (paN s) paT paF (s, [], 0) with
    | inr z => exact ⟨z, rfl, rfl⟩
    | inl r =>
      exfalso
      have : ∀ (n : Nat) (s : PSt) (r : Unit), whileR n paT paF s ≠ .inl r := by
        intro n
        induction n with
        | zero => intro s r q; cases q
        | succ n ih =>
          intro s r q
          rw [whileR] at q
          split at q
          · exact ih _ _ q
          · cases q
      exact this _ _ _ e
  obtain ⟨z, e1, e2⟩ := fin
  obtain ⟨⟨a1, a2⟩, a3, a4, a5, a6⟩ := inv _ z e1
  have kk := hk _ _ a3
  have em := mn kk.n kk.m
  have ht := en z e1
  have q : Shape (paG z) ∧ (paG z).n = s.n ∧ (paG z).m = s.m ∧ TB (paG z) B := by
    by_cases lt : z.2.2 < mnS z.1
    · have eG : paG z = (m_do z.1 z.2.2).2 := if_pos (decide_eq_true lt)
      rw [em] at lt
      have st := hst _ _ a1 a3 (by omega) (by omega)
      rw [eG]
      exact ⟨st.sh, st.n, st.m, st.tb⟩
    · have eG : paG z = z.1 := if_neg (by rw [decide_eq_false lt]; decide)
      rw [eG]
      exact ⟨kk.sh, kk.n, kk.m, kk.tb⟩
  have e3 : (m_paper s).1 = paG z := by rw [e2]
  have e4 : (m_paper s).2 = z.2.1 := by rw [e2]
  refine ⟨⟨by rw [e3]; exact q.1, by rw [e3]; exact q.2.1, by rw [e3]; exact q.2.2.1, by rw [e3]; exact q.2.2.2, by rw [e4]; exact a5, by rw [e4]; omega⟩, z.2.2, z.1, a1, a3, by rw [e4]; exact a4, ?_⟩
  rw [e3]
  by_cases lt : z.2.2 < mnS z.1
  · refine .inl ⟨lt, ?_, if_pos (decide_eq_true lt)⟩
    have : (decide (z.2.2 < mnS z.1) && (m_do z.1 z.2.2).1) = false := ht
    rw [decide_eq_true lt, Bool.true_and] at this
    exact this
  · exact .inr ⟨lt, if_neg (by rw [decide_eq_false lt]; decide)⟩
def bA (d : Int) : Nat := if d ≤ 0 then 0 else if d = 1 then 4300000 else if d = 2 then 30600000 else 30600002
structure JJ (k0 : Int) (s : SS) (b0 : Nat) (k : Int) (z : SS) : Prop where
  sh : Shape z
  n : z.n = s.n
  m : z.m = s.m
  kk : k0 ≤ k
  tb : TB z (b0 + bA (k - k0))
  e0 : k = k0 → ∀ i j, k ≤ i → k ≤ j → (tf z i j).natAbs ≤ 360
  e1 : k = k0 + 1 → (∀ i j, k ≤ i → k ≤ j → (tf z i j).natAbs ≤ 2 ^ 1470) ∧ (D2 k (tf z)).natAbs ≤ 2 ^ 1470
  e2 : k = k0 + 2 → ∀ i j, k ≤ i → k ≤ j → (tf z i j).natAbs ≤ 2 ^ 1485
theorem bA_le {d : Int} : bA d ≤ 30600002 := by unfold bA; split <;> (try split) <;> (try split) <;> omega
theorem bA_0 : bA 0 = 0 := by unfold bA; rw [if_pos (by omega)]
theorem bA_1 : bA 1 = 4300000 := by unfold bA; rw [if_neg (by omega), if_pos rfl]
theorem bA_2 : bA 2 = 30600000 := by unfold bA; rw [if_neg (by omega), if_neg (by omega), if_pos rfl]
theorem bA_3 : bA 3 = 30600002 := by unfold bA; rw [if_neg (by omega), if_neg (by omega), if_neg (by omega)]
theorem JJ.keep {k0 : Int} {s z : SS} {b0 : Nat} {k : Int} (h : JJ k0 s b0 k z) : KeepJ s (b0 + 30600002) z := ⟨h.sh, h.n, h.m, h.tb.mono (by have := bA_le (d := k - k0); omega)⟩
theorem JJ.step {k0 : Int} {s z : SS} {b0 : Nat} {k : Int} (h : JJ k0 s b0 k z) (k00 : 0 ≤ k0) (k01 : k0 ≤ 50) (hn : s.n ≤ k0 + 3) (hm : s.m ≤ k0 + 3) (hb : b0 ≤ 1000) (k1 : k < s.n) (k2 : k < s.m) : StepJ s (JJ k0 s b0) (b0 + 30600002) k z := by
  have kk := h.kk
  have en := h.n
  have em := h.m
  have mv : ∀ {y : SS}, Shape y → y.n = z.n → y.m = z.m → ∀ {b : Nat}, TB y b → Shape (negS y k) ∧ (negS y k).n = s.n ∧ (negS y k).m = s.m ∧ TB (negS y k) b := fun {y} sh a b' {b} tb =>
    ⟨negS_shape sh (by omega) (by omega), by rw [negS_nm.1]; omega, by rw [negS_nm.2]; omega, negS_tb sh tb (by omega) (by omega)⟩
  by_cases c0 : k = k0
  · obtain ⟨p1, p2, p3, p4, p5⟩ := stageA (b := b0) h.sh (by omega) (by omega) (by omega) (by omega) (by omega) (by omega) (h.tb.mono (by rw [show k - k0 = 0 by omega, bA_0]; omega)) (h.e0 c0) (by omega)
    refine ⟨p1, p3, by omega, by omega, p2.mono (by omega), fun hd => ?_⟩
    obtain ⟨q1, q2, q3, q4⟩ := p5 hd
    obtain ⟨m1, m2, m3, m4⟩ := mv p3 p4.1 p4.2 p2
    refine ⟨⟨q4, le9 (q1 k k (Int.le_refl _) (Int.le_refl _)) (by decide)⟩, m1, m2, m3, by omega, m4.mono (by rw [show k + 1 - k0 = 1 by omega, bA_1]; omega), fun e => by omega, fun e => ⟨fun i j hi hj => ?_, ?_⟩, fun e => by omega⟩
    · rw [negS_tf p3 (by omega) (by omega) (by omega)]; exact q1 i j (by omega) (by omega)
    · unfold D2 d2
      rw [negS_tf p3 (by omega) (by omega) (by omega), negS_tf p3 (by omega) (by omega) (by omega), negS_tf p3 (by omega) (by omega) (by omega), negS_tf p3 (by omega) (by omega) (by omega)]
      exact q2 (k + 1) (k + 1 + 1) (k + 1) (k + 1 + 1) (by omega) (by omega) (by omega) (by omega)
  · by_cases c1 : k = k0 + 1
    · obtain ⟨q1, q2⟩ := h.e1 c1
      obtain ⟨p1, p2, p3, p4, p5⟩ := stageB (b := b0 + 4300000) h.sh (by omega) (by omega) (by omega) (by omega) (by omega) (by omega) (h.tb.mono (by rw [show k - k0 = 1 by omega, bA_1]; omega)) q1 q2 (by omega)
      refine ⟨p1, p3, by omega, by omega, p2.mono (by omega), fun hd => ?_⟩
      obtain ⟨q1, q2, q4⟩ := p5 hd
      obtain ⟨m1, m2, m3, m4⟩ := mv p3 p4.1 p4.2 p2
      refine ⟨⟨q4, le9 (q1 k k (Int.le_refl _) (Int.le_refl _)) (by decide)⟩, m1, m2, m3, by omega, m4.mono (by rw [show k + 1 - k0 = 2 by omega, bA_2]; omega), fun e => by omega, fun e => by omega, fun e i j hi hj => ?_⟩
      rw [negS_tf p3 (by omega) (by omega) (by omega)]; exact q1 i j (by omega) (by omega)
    · have c2 : k = k0 + 2 := by omega
      obtain ⟨p1, p2, p3, p4, p5⟩ := stageC (b := b0 + 30600000) h.sh (by omega) (by omega) (by omega) (by omega) (by omega) (by omega) (h.tb.mono (by rw [show k - k0 = 2 by omega, bA_2]; omega)) (h.e2 c2) (by omega)
      refine ⟨p1, p3, by omega, by omega, p2.mono (by omega), fun hd => ?_⟩
      obtain ⟨m1, m2, m3, m4⟩ := mv p3 p4.1 p4.2 p2
      refine ⟨⟨(p5 hd).1, le9 (p5 hd).2 (by decide)⟩, m1, m2, m3, by omega, m4.mono (by rw [show k + 1 - k0 = 3 by omega, bA_3]; omega), fun e => by omega, fun e => by omega, fun e => by omega⟩
theorem paper3 {s : SS} {b0 : Nat} (h : Shape s) (n0 : 0 ≤ s.n) (m0 : 0 ≤ s.m) (hn : s.n ≤ 3) (hm : s.m ≤ 3) (hb : b0 ≤ 1000) (tb : TB s b0) (hM : ∀ i j, 0 ≤ i → 0 ≤ j → (tf s i j).natAbs ≤ 360) : PPa s ∧ PapB s (b0 + 30600002) := by
  have := paper_law (s := s) (J := JJ 0 s b0) (B := b0 + 30600002) n0 m0 (by omega) (by omega) ⟨h, rfl, rfl, Int.le_refl _, tb, fun _ => hM, fun e => by omega, fun e => by omega⟩ (fun k z j => j.keep) (fun k z k0 j k1 k2 => j.step (by omega) (by omega) (by omega) (by omega) hb k1 k2)
  exact ⟨this.1, this.2.1⟩
def TbOk (c m : Nat) (t : List (List Int)) : Prop := ∀ row ∈ t, row.length = c ∧ ∀ n ∈ row, n.natAbs ≤ m
theorem even_rect {n : Int} (h : 0 ≤ n) : Rect (m_even n) n n := by
  unfold m_even
  refine ⟨by rw [List.length_map, rng_length]; omega, fun row hr => ?_⟩
  obtain ⟨_, _, rfl⟩ := List.mem_map.mp hr
  rw [List.length_map, rng_length]; omega
theorem even_bt {n : Int} {b : Nat} (hb : 1 ≤ b) : BT (m_even n) b := fun row hr z hz => by
  unfold m_even at hr
  obtain ⟨_, _, rfl⟩ := List.mem_map.mp hr
  obtain ⟨_, _, rfl⟩ := List.mem_map.mp hz
  have : 2 ^ 1 ≤ 2 ^ b := Nat.pow_le_pow_right (by decide) hb
  split <;> (simp only [Int.natAbs_one, Int.natAbs_zero]; omega)
theorem start_ok {c m b : Nat} {t : List (List Int)} (h : TbOk c m t) (hm : m < 2 ^ b) (hb : 1 ≤ b) : Shape (ss0 t.length c t m_even) ∧ TB (ss0 t.length c t m_even) b ∧ ∀ i j, (tf (ss0 t.length c t m_even) i j).natAbs ≤ m := by
  have r : Rect t t.length c := ⟨rfl, fun row hr => by rw [(h row hr).1]⟩
  refine ⟨⟨r, even_rect (by omega), even_rect (by omega), even_rect (by omega), even_rect (by omega)⟩, fun f => ?_, fun i j => ?_⟩
  · cases f with
    | T => exact fun row hr z hz => Nat.lt_of_le_of_lt ((h row hr).2 z hz) hm
    | L => exact even_bt hb
    | Lb => exact even_bt hb
    | R => exact even_bt hb
    | Rb => exact even_bt hb
  · by_cases d : (0 ≤ i ∧ i < (t.length : Int)) ∧ 0 ≤ j ∧ j < (c : Int)
    · rw [show tf (ss0 t.length c t m_even) i j = at2 t i j from if_pos d]
      have g := r.get d.1.1 d.1.2
      exact (h _ g.1).2 _ (getA_mem d.2.1 (by rw [g.2]; exact d.2.2))
    · rw [show tf (ss0 t.length c t m_even) i j = 0 from if_neg d]; exact Nat.zero_le _
theorem papOk_of {n m : Int} {t : List (List Int)} {B : Nat} (hn : 0 ≤ n ∧ n ≤ 1000 ∧ 0 ≤ m ∧ m ≤ 1000) (h : PPa (ss0 n m t m_even) ∧ PapB (ss0 n m t m_even) B) (hB : B ≤ 30700000) : PapOk n m t :=
  ⟨hn, h.1, h.2.sh, h.2.n, h.2.m, ⟨B, hB, h.2.tb⟩, h.2.st, h.2.ln⟩
theorem papOk3 {c : Nat} {t : List (List Int)} (h : TbOk c 360 t) (hl : t.length ≤ 3) (hc : c ≤ 3) : PapOk t.length c t := by
  obtain ⟨a, b, d⟩ := start_ok (b := 9) h (by decide) (by decide)
  exact papOk_of (by omega) (paper3 a (show (0 : Int) ≤ (t.length : Int) by omega) (show (0 : Int) ≤ (c : Int) by omega) (show (t.length : Int) ≤ 3 by omega) (show (c : Int) ≤ 3 by omega) (by decide) b fun i j _ _ => d i j) (by omega)
theorem TbOk.sm {c m b : Nat} {t : List (List Int)} (h : TbOk c m t) (hm : m < 2 ^ b) (hb : b ≤ 67108864) : ∀ row ∈ t, ∀ n ∈ row, Sm n := fun row hr n hn => ⟨b, hb, Nat.lt_of_le_of_lt ((h row hr).2 n hn) hm⟩

def CD1 (d : Int) (a : Mx) : Prop := ∀ i j, d ∣ a i j
def CD2 (d : Int) (a : Mx) : Prop := ∀ i1 i2 j1 j2, d ∣ d2 a i1 i2 j1 j2
def CD3 (d : Int) (a : Mx) : Prop := ∀ i1 i2 i3 j1 j2 j3, d ∣ d3 a i1 i2 i3 j1 j2 j3
structure Eqv (a b : Mx) : Prop where
  c1 : ∀ d, CD1 d a ↔ CD1 d b
  c2 : ∀ d, CD2 d a ↔ CD2 d b
  c3 : ∀ d, CD3 d a ↔ CD3 d b
theorem Eqv.refl (a : Mx) : Eqv a a := ⟨fun _ => Iff.rfl, fun _ => Iff.rfl, fun _ => Iff.rfl⟩
theorem Eqv.trans {a b c : Mx} (h : Eqv a b) (k : Eqv b c) : Eqv a c := ⟨fun d => (h.c1 d).trans (k.c1 d), fun d => (h.c2 d).trans (k.c2 d), fun d => (h.c3 d).trans (k.c3 d)⟩
structure RowsOf (a b : Mx) : Prop where
  c1 : ∀ d, CD1 d a → CD1 d b
  c2 : ∀ d, CD2 d a → CD2 d b
  c3 : ∀ d, CD3 d a → CD3 d b
theorem Eqv.of {a b : Mx} (h : RowsOf a b) (k : RowsOf b a) : Eqv a b := ⟨fun d => ⟨h.c1 d, k.c1 d⟩, fun d => ⟨h.c2 d, k.c2 d⟩, fun d => ⟨h.c3 d, k.c3 d⟩⟩
theorem rows_map {a : Mx} (f g : Int → Int) : RowsOf a (fun i j => a (f i) (g j)) := ⟨fun d h i j => h _ _, fun d h i1 i2 j1 j2 => h (f i1) (f i2) (g j1) (g j2), fun d h i1 i2 i3 j1 j2 j3 => h (f i1) (f i2) (f i3) (g j1) (g j2) (g j3)⟩
def radd (o p q : Int) (a : Mx) : Mx := fun i j => if i = o then a o j + q * a p j else a i j
def tp (a : Mx) : Mx := fun i j => a j i
theorem d2_tp {a : Mx} {i1 i2 j1 j2 : Int} : d2 (tp a) i1 i2 j1 j2 = d2 a j1 j2 i1 i2 := by unfold d2 tp; grind
theorem d3_tp {a : Mx} {i1 i2 i3 j1 j2 j3 : Int} : d3 (tp a) i1 i2 i3 j1 j2 j3 = d3 a j1 j2 j3 i1 i2 i3 := by unfold d3 d2 tp; grind
theorem cd_tp {a : Mx} {d : Int} : (CD1 d (tp a) ↔ CD1 d a) ∧ (CD2 d (tp a) ↔ CD2 d a) ∧ (CD3 d (tp a) ↔ CD3 d a) :=
  ⟨⟨fun h i j => h j i, fun h i j => h j i⟩, ⟨fun h i1 i2 j1 j2 => by rw [← d2_tp]; exact h _ _ _ _, fun h i1 i2 j1 j2 => by rw [d2_tp]; exact h _ _ _ _⟩, ⟨fun h i1 i2 i3 j1 j2 j3 => by rw [← d3_tp]; exact h _ _ _ _ _ _, fun h i1 i2 i3 j1 j2 j3 => by rw [d3_tp]; exact h _ _ _ _ _ _⟩⟩
theorem radd_o {o p q j : Int} {a : Mx} : radd o p q a o j = a o j + q * a p j := if_pos rfl
theorem radd_n {o p q i j : Int} {a : Mx} (h : i ≠ o) : radd o p q a i j = a i j := if_neg h
theorem dvd_addm {d x y q : Int} (h1 : d ∣ x) (h2 : d ∣ y) : d ∣ x + q * y := Int.dvd_add h1 (Int.dvd_mul_of_dvd_right h2)
theorem rows_radd {o p q : Int} {a : Mx} : RowsOf a (radd o p q a) := by
  refine ⟨fun d h i j => ?_, fun d h i1 i2 j1 j2 => ?_, fun d h i1 i2 i3 j1 j2 j3 => ?_⟩
  · by_cases c : i = o
    · rw [c, radd_o]; exact dvd_addm (h _ _) (h _ _)
    · rw [radd_n c]; exact h _ _
  · by_cases c1 : i1 = o
    · by_cases c2 : i2 = o
      · rw [c1, c2, d2_same1]; exact Int.dvd_zero _
      · have : d2 (radd o p q a) i1 i2 j1 j2 = d2 a o i2 j1 j2 + q * d2 a p i2 j1 j2 := by
          unfold d2; rw [c1, radd_o, radd_o, radd_n c2, radd_n c2]; grind
        rw [this]; exact dvd_addm (h _ _ _ _) (h _ _ _ _)
    · by_cases c2 : i2 = o
      · have : d2 (radd o p q a) i1 i2 j1 j2 = d2 a i1 o j1 j2 + q * d2 a i1 p j1 j2 := by
          unfold d2; rw [c2, radd_o, radd_o, radd_n c1, radd_n c1]; grind
        rw [this]; exact dvd_addm (h _ _ _ _) (h _ _ _ _)
      · have : d2 (radd o p q a) i1 i2 j1 j2 = d2 a i1 i2 j1 j2 := by
          unfold d2; rw [radd_n c1, radd_n c1, radd_n c2, radd_n c2]
        rw [this]; exact h _ _ _ _
  · have s12 : ∀ {b : Mx} {i k j1 j2 j3 : Int}, d3 b i i k j1 j2 j3 = 0 := by intros; unfold d3 d2; grind
    have s13 : ∀ {b : Mx} {i k j1 j2 j3 : Int}, d3 b i k i j1 j2 j3 = 0 := by intros; unfold d3 d2; grind
    have s23 : ∀ {b : Mx} {i k j1 j2 j3 : Int}, d3 b k i i j1 j2 j3 = 0 := by intros; unfold d3 d2; grind
    by_cases c1 : i1 = o
    · by_cases c2 : i2 = o
      · rw [c1, c2, s12]; exact Int.dvd_zero _
      · by_cases c3 : i3 = o
        · rw [c1, c3, s13]; exact Int.dvd_zero _
        · have : d3 (radd o p q a) i1 i2 i3 j1 j2 j3 = d3 a o i2 i3 j1 j2 j3 + q * d3 a p i2 i3 j1 j2 j3 := by
            unfold d3 d2; rw [c1, radd_o, radd_o, radd_o, radd_n c2, radd_n c2, radd_n c2, radd_n c3, radd_n c3, radd_n c3]; grind
          rw [this]; exact dvd_addm (h _ _ _ _ _ _) (h _ _ _ _ _ _)
    · by_cases c2 : i2 = o
      · by_cases c3 : i3 = o
        · rw [c2, c3, s23]; exact Int.dvd_zero _
        · have : d3 (radd o p q a) i1 i2 i3 j1 j2 j3 = d3 a i1 o i3 j1 j2 j3 + q * d3 a i1 p i3 j1 j2 j3 := by
            unfold d3 d2; rw [c2, radd_o, radd_o, radd_o, radd_n c1, radd_n c1, radd_n c1, radd_n c3, radd_n c3, radd_n c3]; grind
          rw [this]; exact dvd_addm (h _ _ _ _ _ _) (h _ _ _ _ _ _)
      · by_cases c3 : i3 = o
        · have : d3 (radd o p q a) i1 i2 i3 j1 j2 j3 = d3 a i1 i2 o j1 j2 j3 + q * d3 a i1 i2 p j1 j2 j3 := by
            unfold d3 d2; rw [c3, radd_o, radd_o, radd_o, radd_n c1, radd_n c1, radd_n c1, radd_n c2, radd_n c2, radd_n c2]; grind
          rw [this]; exact dvd_addm (h _ _ _ _ _ _) (h _ _ _ _ _ _)
        · have : d3 (radd o p q a) i1 i2 i3 j1 j2 j3 = d3 a i1 i2 i3 j1 j2 j3 := by
            unfold d3 d2; rw [radd_n c1, radd_n c1, radd_n c1, radd_n c2, radd_n c2, radd_n c2, radd_n c3, radd_n c3, radd_n c3]
          rw [this]; exact h _ _ _ _ _ _
theorem eqv_radd {o p q : Int} {a : Mx} (h : o ≠ p) : Eqv a (radd o p q a) := by
  refine Eqv.of rows_radd ?_
  have : radd o p (-q) (radd o p q a) = a := by
    funext i j
    by_cases c : i = o
    · rw [c, radd_o, radd_o, radd_n (Ne.symm h), Int.neg_mul]; omega
    · rw [radd_n c, radd_n c]
  have k := rows_radd (o := o) (p := p) (q := -q) (a := radd o p q a)
  rw [this] at k
  exact k
theorem Eqv.tp {a b : Mx} (h : Eqv (My.tp a) (My.tp b)) : Eqv a b :=
  ⟨fun d => (cd_tp.1.symm.trans (h.c1 d)).trans cd_tp.1, fun d => (cd_tp.2.1.symm.trans (h.c2 d)).trans cd_tp.2.1, fun d => (cd_tp.2.2.symm.trans (h.c3 d)).trans cd_tp.2.2⟩
theorem eqv_cadd {o p q : Int} {a : Mx} (h : o ≠ p) : Eqv a (fun i j => if j = o then a i o + q * a i p else a i j) := Eqv.tp (eqv_radd (a := tp a) h)
theorem sw_sw {a b i : Int} : sw a b (sw a b i) = i := by unfold sw; split <;> (try split) <;> (try split) <;> omega
theorem eqv_swR {x y : Int} {a : Mx} : Eqv a (fun i j => a (sw x y i) j) := by
  refine Eqv.of (rows_map (sw x y) id) ?_
  have k := rows_map (a := fun i j => a (sw x y i) j) (sw x y) id
  simp only [sw_sw, id] at k
  exact k
theorem eqv_swC {x y : Int} {a : Mx} : Eqv a (fun i j => a i (sw x y j)) := by
  refine Eqv.of (rows_map id (sw x y)) ?_
  have k := rows_map (a := fun i j => a i (sw x y j)) id (sw x y)
  simp only [sw_sw, id] at k
  exact k
def rneg (o : Int) (a : Mx) : Mx := fun i j => if i = o then -a i j else a i j
theorem rows_rneg {o : Int} {a : Mx} : RowsOf a (rneg o a) := by
  have e : ∀ i, ∃ s : Int, ∀ j, rneg o a i j = s * a i j := fun i => by
    by_cases c : i = o
    · exact ⟨-1, fun j => by unfold rneg; rw [if_pos c]; omega⟩
    · exact ⟨1, fun j => by unfold rneg; rw [if_neg c]; omega⟩
  refine ⟨fun d h i j => ?_, fun d h i1 i2 j1 j2 => ?_, fun d h i1 i2 i3 j1 j2 j3 => ?_⟩
  · obtain ⟨s, hs⟩ := e i
    rw [hs]; exact Int.dvd_mul_of_dvd_right (h _ _)
  · obtain ⟨s, hs⟩ := e i1
    obtain ⟨t, ht⟩ := e i2
    have : d2 (rneg o a) i1 i2 j1 j2 = (s * t) * d2 a i1 i2 j1 j2 := by unfold d2; rw [hs, hs, ht, ht]; grind
    rw [this]; exact Int.dvd_mul_of_dvd_right (h _ _ _ _)
  · obtain ⟨s, hs⟩ := e i1
    obtain ⟨t, ht⟩ := e i2
    obtain ⟨u, hu⟩ := e i3
    have : d3 (rneg o a) i1 i2 i3 j1 j2 j3 = (s * t * u) * d3 a i1 i2 i3 j1 j2 j3 := by unfold d3 d2; rw [hs, hs, hs, ht, ht, ht, hu, hu, hu]; grind
    rw [this]; exact Int.dvd_mul_of_dvd_right (h _ _ _ _ _ _)
theorem eqv_rneg {o : Int} {a : Mx} : Eqv a (rneg o a) := by
  refine Eqv.of rows_rneg ?_
  have : rneg o (rneg o a) = a := by
    funext i j
    unfold rneg
    split <;> omega
  have k := rows_rneg (o := o) (a := rneg o a)
  rw [this] at k
  exact k

structure Up (k : Int) (a b : Mx) : Prop where
  fix : (∀ i j, (i < k ∨ j < k) → i ≠ j → a i j = 0) → ∀ i j, (i < k ∨ j < k) → b i j = a i j
  div : ∀ d i, i ≤ k → (∀ r c, i ≤ r → i ≤ c → d ∣ a r c) → ∀ r c, i ≤ r → i ≤ c → d ∣ b r c
  eqv : Eqv a b
theorem Up.refl (k : Int) (a : Mx) : Up k a a := ⟨fun _ _ _ _ => rfl, fun _ _ _ h => h, Eqv.refl a⟩
theorem Up.trans {k : Int} {a b c : Mx} (h : Up k a b) (g : Up k b c) : Up k a c :=
  ⟨fun z i j hh => by
    have hb := h.fix z
    rw [g.fix (fun i j hh ne => by rw [hb i j hh]; exact z i j hh ne) i j hh]; exact hb i j hh, fun d i hi hd => g.div d i hi (h.div d i hi hd), h.eqv.trans g.eqv⟩
theorem up_radd {k o p q : Int} {a : Mx} (ho : k ≤ o) (hp : k ≤ p) (ne : o ≠ p) : Up k a (radd o p q a) := by
  refine ⟨fun z i j hh => ?_, fun d i hi hd r c hr hc => ?_, eqv_radd ne⟩
  · by_cases c : i = o
    · subst c
      have hj : j < k := by omega
      rw [radd_o, z p j (.inr hj) (by omega)]; omega
    · rw [radd_n c]
  · by_cases c' : r = o
    · subst c'; rw [radd_o]; exact dvd_addm (hd _ _ hr hc) (hd _ _ (by omega) hc)
    · rw [radd_n c']; exact hd _ _ hr hc
theorem up_cadd {k o p q : Int} {a : Mx} (ho : k ≤ o) (hp : k ≤ p) (ne : o ≠ p) : Up k a (fun i j => if j = o then a i o + q * a i p else a i j) := by
  refine ⟨fun z i j hh => ?_, fun d i hi hd r c hr hc => ?_, eqv_cadd ne⟩
  · split
    · rename_i e
      subst e
      have hj : i < k := by omega
      rw [z i p (.inl hj) (by omega)]; omega
    · rfl
  · split
    · rename_i e
      subst e; exact dvd_addm (hd _ _ hr hc) (hd _ _ hr (by omega))
    · exact hd _ _ hr hc
theorem sw_lt {k r i : Int} (h : k ≤ r) (hi : i < k) : sw k r i = i := by unfold sw; rw [if_neg (by omega), if_neg (by omega)]
theorem sw_le {k r i m : Int} (h : k ≤ r) (hm : m ≤ k) (hi : m ≤ i) : m ≤ sw k r i := by unfold sw; split <;> (try split) <;> omega
theorem up_swR {k x : Int} {a : Mx} (hx : k ≤ x) : Up k a (fun i j => a (sw k x i) j) := by
  refine ⟨fun z i j hh => ?_, fun d i hi hd r c hr hc => hd _ _ (sw_le hx hi hr) hc, eqv_swR⟩
  by_cases c : i < k
  · rw [sw_lt hx c]
  · have hj : j < k := by omega
    have := sw_ge hx (show k ≤ i by omega)
    rw [z i j (.inr hj) (by omega), z _ j (.inr hj) (by omega)]
theorem up_swC {k x : Int} {a : Mx} (hx : k ≤ x) : Up k a (fun i j => a i (sw k x j)) := by
  refine ⟨fun z i j hh => ?_, fun d i hi hd r c hr hc => hd _ _ hr (sw_le hx hi hc), eqv_swC⟩
  by_cases c : j < k
  · rw [sw_lt hx c]
  · have hj : i < k := by omega
    have := sw_ge hx (show k ≤ j by omega)
    rw [z i j (.inl hj) (by omega), z i _ (.inl hj) (by omega)]
theorem up_rneg {k : Int} {a : Mx} : Up k a (rneg k a) := by
  refine ⟨fun z i j hh => ?_, fun d i hi hd r c hr hc => ?_, eqv_rneg⟩
  · unfold rneg
    split
    · rename_i e
      subst e
      rw [z i j hh (by omega)]; rfl
    · rfl
  · unfold rneg
    split
    · exact Int.dvd_neg.mpr (hd _ _ hr hc)
    · exact hd _ _ hr hc
theorem tf_colTo {s : SS} {a b i j : Int} (h : Shape s) (a0 : 0 ≤ a) (a1 : a < s.m) (b0 : 0 ≤ b) (b1 : b < s.m) (q : Int) : tf (m_column_to s a q b) i j = if j = b then tf s i b + q * tf s i a else tf s i j := by
  by_cases c : (0 ≤ i ∧ i < s.n) ∧ 0 ≤ j ∧ j < s.m
  · have e : tf (m_column_to s a q b) i j = at2 ((s.tb .T).map (cAdd a q b)) i j := tf_in (s := m_column_to s a q b) c.1.1 c.1.2 c.2.1 c.2.2
    rw [e, at2_cAdd h.T b0 b1 c.1.1 c.1.2 c.2.1 c.2.2, tf_in c.1.1 c.1.2 b0 b1, tf_in c.1.1 c.1.2 a0 a1, tf_in c.1.1 c.1.2 c.2.1 c.2.2]
  · have e : tf (m_column_to s a q b) i j = 0 := tf_out (s := m_column_to s a q b) c
    rw [e, tf_out c]
    split
    · rename_i e
      subst e
      rw [tf_out c, tf_out (s := s) (i := i) (j := a) (fun d => c ⟨d.1, b0, b1⟩), Int.mul_zero]; rfl
    · rfl
theorem up_row_to {s : SS} {k a q o : Int} (h : Shape s) (k0 : 0 ≤ k) (a0 : k ≤ a) (a1 : a < s.n) (o0 : k ≤ o) (o1 : o < s.n) (ne : o ≠ a) : Up k (tf s) (tf (m_row_to s a q o)) := by
  have e : tf (m_row_to s a q o) = radd o a q (tf s) := by
    funext i j
    rw [tf_rowTo h (by omega) a1 (by omega) o1]; rfl
  rw [e]; exact up_radd o0 a0 ne
theorem up_column_to {s : SS} {k a q o : Int} (h : Shape s) (k0 : 0 ≤ k) (a0 : k ≤ a) (a1 : a < s.m) (o0 : k ≤ o) (o1 : o < s.m) (ne : o ≠ a) : Up k (tf s) (tf (m_column_to s a q o)) := by
  have e : tf (m_column_to s a q o) = fun i j => if j = o then tf s i o + q * tf s i a else tf s i j := by
    funext i j
    rw [tf_colTo h (by omega) a1 (by omega) o1]
  rw [e]; exact up_cadd o0 a0 ne
theorem up_clR {k : Int} : ∀ (l : List Int) (s : SS), Shape s → 0 ≤ k → k < s.n → k < s.m → (∀ x ∈ l, k < x ∧ x < s.n) → Shape (l.foldl (clR k) s) ∧ Up k (tf s) (tf (l.foldl (clR k) s))
  | [], s, h, _, _, _, _ => ⟨h, Up.refl _ _⟩
  | x :: l, s, h, s0, s1, s2, hl => by
    have hx := hl x List.mem_cons_self
    have nm := clR_nm (s := s) (step := k) (row := x)
    have u : Up k (tf s) (tf (clR k s x)) := by
      unfold clR
      split
      · exact up_row_to h s0 (Int.le_refl _) s1 (by omega) hx.2 (by omega)
      · exact Up.refl _ _
    obtain ⟨a, b⟩ := up_clR l (clR k s x) (clR_shape h s0 s1 (by omega) hx.2) s0 (by rw [nm.1]; exact s1) (by rw [nm.2]; exact s2) (fun y hy => by rw [nm.1]; exact hl y (List.mem_cons_of_mem _ hy))
    exact ⟨a, u.trans b⟩
theorem up_clC {k : Int} : ∀ (l : List Int) (s : SS), Shape s → 0 ≤ k → k < s.n → k < s.m → (∀ x ∈ l, k < x ∧ x < s.m) → Shape (l.foldl (clC k) s) ∧ Up k (tf s) (tf (l.foldl (clC k) s))
  | [], s, h, _, _, _, _ => ⟨h, Up.refl _ _⟩
  | x :: l, s, h, s0, s1, s2, hl => by
    have hx := hl x List.mem_cons_self
    have nm := clC_nm (s := s) (step := k) (row := x)
    have u : Up k (tf s) (tf (clC k s x)) := by
      unfold clC
      split
      · exact up_column_to h s0 (Int.le_refl _) s2 (by omega) hx.2 (by omega)
      · exact Up.refl _ _
    obtain ⟨a, b⟩ := up_clC l (clC k s x) (clC_shape h s0 s2 (by omega) hx.2) s0 (by rw [nm.1]; exact s1) (by rw [nm.2]; exact s2) (fun y hy => by rw [nm.2]; exact hl y (List.mem_cons_of_mem _ hy))
    exact ⟨a, u.trans b⟩
theorem up_cleared {s : SS} {k : Int} (h : Shape s) (s0 : 0 ≤ k) (s1 : k < s.n) (s2 : k < s.m) : Up k (tf s) (tf (m_cleared s k)) := by
  have nR := fold_nm (f := clR k) (fun _ _ => clR_nm) (rng2 (k + 1) s.n) s
  obtain ⟨a, b⟩ := up_clR (rng2 (k + 1) s.n) s h s0 s1 s2 (fun x hx => by have := mem_rng2 hx; omega)
  obtain ⟨c, d⟩ := up_clC (rng2 (k + 1) s.m) _ a s0 (by rw [nR.1]; exact s1) (by rw [nR.2]; exact s2) (fun x hx => by rw [nR.2]; have := mem_rng2 hx; omega)
  exact b.trans d
theorem up_swS {s : SS} {k r c : Int} (h : Shape s) (s0 : 0 ≤ k) (s1 : k < s.n) (s2 : k < s.m) (r0 : k ≤ r) (r1 : r < s.n) (c0 : k ≤ c) (c1 : c < s.m) : Up k (tf s) (tf (swS s k r c)) := by
  rw [swp_of h s0 s1 s2 (by omega) r1 (by omega) c1]
  exact (up_swR (a := tf s) r0).trans (up_swC (a := fun i j => tf s (sw k r i) j) c0)
theorem up_doF {s : SS} {k : Int} (h : Shape s) (s0 : 0 ≤ k) (s1 : k < s.n) (s2 : k < s.m) : (∀ z, doF k s = .inr z → Up k (tf s) (tf z)) ∧ ∀ d z, doF k s = .inl (d, z) → Up k (tf s) (tf z) := by
  have one : ∀ h' r c, m_least_from s k = some (h', r, c) → Up k (tf s) (tf (m_cleared (swS s k r c) k)) ∧ Shape (m_cleared (swS s k r c) k) := fun h' r c hm => by
    obtain ⟨⟨pv, r1, c1⟩, _⟩ := piv_some s0 hm
    have r0 := pv.r0
    have c0 := pv.c0
    have hs := shape_swS h s0 s1 s2 (by omega : 0 ≤ r) r1 (by omega : 0 ≤ c) c1
    exact ⟨(up_swS h s0 s1 s2 r0 r1 c0 c1).trans (up_cleared hs s0 s1 s2), shape_cleared hs s0 s1 s2⟩
  refine ⟨fun z e => ?_, fun d z e => ?_⟩
  · unfold doF at e
    split at e
    · cases e
    · rename_i pl hm
      obtain ⟨h', r, c⟩ := pl
      obtain ⟨u, sh⟩ := one h' r c hm
      dsimp only at e
      split at e
      · split at e
        · cases e
        · rename_i x hu
          cases e
          have n1 : k < (m_cleared (swS s k r c) k).n := by rw [cleared_nm.1]; exact s1
          have n2 : k < (m_cleared (swS s k r c) k).m := by rw [cleared_nm.2]; exact s2
          obtain ⟨⟨u0, u1⟩, _⟩ := und_some s0 n1 n2 hu
          exact (u.trans (up_row_to (q := 1) sh s0 (by omega) u1 (Int.le_refl _) n1 (by omega))).trans (up_cleared (shape_row_to sh (by omega) u1 s0 n1) s0 n1 n2)
      · cases e; exact u
  · unfold doF at e
    split at e
    · cases e; exact Up.refl _ _
    · rename_i pl hm
      obtain ⟨h', r, c⟩ := pl
      obtain ⟨u, sh⟩ := one h' r c hm
      dsimp only at e
      split at e
      · split at e
        · cases e; exact u
        · cases e
      · cases e
structure DoFin (s : SS) (k : Int) : Prop where
  sh : Shape (m_do s k).2
  n : (m_do s k).2.n = s.n
  m : (m_do s k).2.m = s.m
  up : Up k (tf s) (tf (m_do s k).2)
  no : (m_do s k).1 = false → ∀ i j, k ≤ i → k ≤ j → tf (m_do s k).2 i j = 0
  yes : (m_do s k).1 = true → tf (m_do s k).2 k k ≠ 0 ∧ Clr k (tf (m_do s k).2) ∧ ∀ i j, k < i → k < j → (tf (m_do s k).2 i j).fmod (tf (m_do s k).2 k k) = 0
theorem do_fin {s : SS} {k : Int} (h : Shape s) (s0 : 0 ≤ k) (s1 : k < s.n) (s2 : k < s.m) : DoFin s k := by
  have fin : ∃ i z, DoI k i s z ∧ doF k z = .inl (m_do s k) := by
    unfold m_do
    cases e : whileR (doN s k) (fun _ => true) (doF k) s with
    | inr z => exact absurd e (do_ends h s0 s1 s2 z)
    | inl r => exact whileR_inl _ e
  have up : ∀ i {z}, DoI k i s z → Up k (tf s) (tf z) := by
    intro i
    induction i with
    | zero => intro z e; cases e; exact Up.refl _ _
    | succ i ih =>
      intro z e
      obtain ⟨y, e1, e2⟩ := whileR_pred i e
      obtain ⟨a1, a2, a3⟩ := doI_shape h s0 s1 s2 i e1
      exact (ih e1).trans ((up_doF a1 s0 (by omega) (by omega)).1 z e2)
  obtain ⟨i, z, q1, q2⟩ := fin
  obtain ⟨a1, a2, a3⟩ := doI_shape h s0 s1 s2 i q1
  obtain ⟨c1, c2, c3⟩ := doF_end (d := (m_do s k).1) (z := (m_do s k).2) a1 s0 (by omega) (by omega) q2
  have nm := endnm (d := (m_do s k).1) (z' := (m_do s k).2) q2
  refine ⟨c1, by omega, by omega, (up i q1).trans ((up_doF a1 s0 (by omega) (by omega)).2 (m_do s k).1 (m_do s k).2 q2), fun hd => ?_, fun hd => ?_⟩
  · obtain ⟨e, zz⟩ := c2 hd
    rw [e]; exact zz
  · obtain ⟨r, c, pv, T, cl, dv⟩ := c3 hd
    exact ⟨by rw [T.kk, swp_kk]; exact pv.nz, cl, dv⟩
structure DG (s : SS) (k : Int) (z : SS) (l : List Int) : Prop where
  sh : Shape z
  n : z.n = s.n
  m : z.m = s.m
  k0 : 0 ≤ k
  len : (l.length : Int) = k
  off : ∀ i j, (i < k ∨ j < k) → i ≠ j → tf z i j = 0
  dg : ∀ i, 0 ≤ i → i < k → tf z i i = getA l i ∧ 0 < getA l i
  dv : ∀ i, 0 ≤ i → i < k → ∀ r c, i ≤ r → i ≤ c → getA l i ∣ tf z r c
  eqv : Eqv (tf s) (tf z)
theorem tf_neg {s : SS} {i j : Int} (h : i < 0 ∨ j < 0) : tf s i j = 0 := tf_out (by omega)
theorem getA_app {l : List Int} {x i : Int} (h0 : 0 ≤ i) : getA (l ++ [x]) i = if i = l.length then x else if i < l.length then getA l i else getA (l ++ [x]) i := by
  obtain ⟨i, rfl⟩ := Int.eq_ofNat_of_zero_le h0
  split
  · rename_i e
    have e : i = l.length := by omega
    rw [getA_nat (by rw [List.length_append, List.length_singleton]; omega)]
    subst e
    simp
  · split
    · rename_i e
      have e : i < l.length := by omega
      rw [getA_nat (by rw [List.length_append, List.length_singleton]; omega), getA_nat e]
      exact List.getElem_append_left e
    · rfl
theorem fmod_zero {x p : Int} (h : x.fmod p = 0) : p ∣ x := ⟨x.fdiv p, by have := fm_eq x p; omega⟩
theorem DG.step {s z : SS} {k : Int} {l : List Int} (h : DG s k z l) (k1 : k < s.n) (k2 : k < s.m) (hd : (m_do z k).1 = true) : DG s (k + 1) (negS (m_do z k).2 k) (l ++ [at2 ((negS (m_do z k).2 k).tb .T) k k]) := by
  have f := do_fin h.sh h.k0 (by rw [h.n]; exact k1) (by rw [h.m]; exact k2)
  have k0 := h.k0
  obtain ⟨nz, cl, dv⟩ := f.yes hd
  have n1 : k < (m_do z k).2.n := by rw [f.n, h.n]; exact k1
  have n2 : k < (m_do z k).2.m := by rw [f.m, h.m]; exact k2
  have en : tf (negS (m_do z k).2 k) = tf (m_do z k).2 ∨ tf (negS (m_do z k).2 k) = rneg k (tf (m_do z k).2) := by
    unfold negS
    split
    · right
      funext i j
      rw [tf_contrary f.sh k0 n1]; rfl
    · left; rfl
  have un : Up k (tf (m_do z k).2) (tf (negS (m_do z k).2 k)) := by
    rcases en with e | e <;> rw [e]
    · exact Up.refl _ _
    · exact up_rneg
  have u := f.up.trans un
  have fx := u.fix h.off
  have pos := negS_kk f.sh k0 n1 n2 nz
  have n1' : k < (negS (m_do z k).2 k).n := by rw [negS_nm.1]; exact n1
  have n2' : k < (negS (m_do z k).2 k).m := by rw [negS_nm.2]; exact n2
  have ekk : at2 ((negS (m_do z k).2 k).tb .T) k k = tf (negS (m_do z k).2 k) k k := (tf_in k0 n1' k0 n2').symm
  have zo : ∀ i j, (i = k ∨ j = k) → i ≠ j → tf (negS (m_do z k).2 k) i j = 0 := fun i j hh ne => by
    by_cases c : i < k ∨ j < k
    · rw [fx i j c]; exact h.off i j c ne
    · have : tf (m_do z k).2 i j = 0 := by
        rcases hh with e | e
        · subst e; exact cl.1 j (by omega)
        · subst e; exact cl.2 i (by omega)
      rcases en with e | e <;> rw [e]
      · exact this
      · unfold rneg; rw [this]; split <;> rfl
  have gl : ∀ i, 0 ≤ i → i < k → getA (l ++ [at2 ((negS (m_do z k).2 k).tb .T) k k]) i = getA l i := fun i i0 i1 => by
    rw [getA_app i0, if_neg (by have := h.len; omega), if_pos (by have := h.len; omega)]
  have gk : getA (l ++ [at2 ((negS (m_do z k).2 k).tb .T) k k]) k = tf (negS (m_do z k).2 k) k k := by
    rw [getA_app k0, if_pos h.len.symm, ekk]
  refine ⟨negS_shape f.sh k0 n1, by rw [negS_nm.1, f.n, h.n], by rw [negS_nm.2, f.m, h.m], by omega, by rw [List.length_append, List.length_singleton]; have := h.len; omega, fun i j hh ne => ?_, fun i i0 i1 => ?_, fun i i0 i1 r c hr hc => ?_, h.eqv.trans u.eqv⟩
  · by_cases c : i = k ∨ j = k
    · exact zo i j c ne
    · rw [fx i j (by omega)]; exact h.off i j (by omega) ne
  · by_cases c : i = k
    · rw [c, gk]; exact ⟨rfl, by rw [← ekk]; exact pos⟩
    · rw [gl i i0 (by omega), fx i i (by omega)]; exact h.dg i i0 (by omega)
  · by_cases c' : i = k
    · subst c'
      rw [gk]
      by_cases c1 : r = i
      · by_cases c2 : c = i
        · rw [c1, c2]; exact Int.dvd_refl _
        · rw [zo r c (.inl c1) (by omega)]; exact Int.dvd_zero _
      · by_cases c2 : c = i
        · rw [zo r c (.inr c2) (by omega)]; exact Int.dvd_zero _
        · have d1 := fmod_zero (dv r c (by omega) (by omega))
          rcases en with e | e <;> rw [e]
          · exact d1
          · unfold rneg; rw [if_neg c1, if_pos rfl]; exact Int.neg_dvd.mpr d1
    · rw [gl i i0 (by omega)]
      exact u.div _ i (by omega) (h.dv i i0 (by omega)) r c hr hc
theorem paper_dg {s : SS} (h : Shape s) (n0 : 0 ≤ s.n) (m0 : 0 ≤ s.m) (pp : PPa s) : ∃ k z, DG s k z (m_paper s).2 ∧ (∀ i j, k ≤ i → k ≤ j → tf z i j = 0) ∧ k ≤ s.n ∧ k ≤ s.m := by
  have mn : ∀ {z : SS}, z.n = s.n → z.m = s.m → mnS z = mnS s := fun a b => by unfold mnS; rw [a, b]
  have mn0 : 0 ≤ mnS s ∧ mnS s ≤ s.n ∧ mnS s ≤ s.m ∧ (mnS s = s.n ∨ mnS s = s.m) := by unfold mnS; split <;> omega
  have noinl : ∀ (n : Nat) (s : PSt) (r : Unit), whileR n paT paF s ≠ .inl r := by
    intro n
    induction n with
    | zero => intro s r q; cases q
    | succ n ih =>
      intro s r q
      rw [whileR] at q
      split at q
      · exact ih _ _ q
      · cases q
  have inv : ∀ (i : Nat) (z : PSt), whileR i paT paF (s, [], 0) = .inr z → DG s z.2.2 z.1 z.2.1 ∧ z.2.2 ≤ mnS s := by
    intro i
    induction i with
    | zero =>
      intro z e
      cases e
      have d0 : DG s 0 s [] := ⟨h, rfl, rfl, Int.le_refl _, rfl, fun i j hh ne => tf_neg hh, fun i a b => by omega, fun i a b => by omega, Eqv.refl _⟩
      exact ⟨d0, mn0.1⟩
    | succ i ih =>
      intro z e
      cases e0 : whileR i paT paF (s, [], 0) with
      | inl r => exact absurd e0 (noinl _ _ _)
      | inr y =>
        obtain ⟨d, le⟩ := ih y e0
        rw [whileR_succ _ _ _ _ _ e0] at e
        split at e
        · rename_i ht
          cases e
          have ht' := Bool.and_eq_true_iff.mp ht
          have lt := of_decide_eq_true ht'.1
          rw [mn d.n d.m] at lt
          have eG : paG y = (m_do y.1 y.2.2).2 := if_pos ht'.1
          have eS : paS y = negS (m_do y.1 y.2.2).2 y.2.2 := by unfold paS negS; rw [eG]
          show DG s (y.2.2 + 1) (paS y) (y.2.1 ++ [at2 ((paS y).tb .T) y.2.2 y.2.2]) ∧ y.2.2 + 1 ≤ mnS s
          rw [eS]
          exact ⟨d.step (by omega) (by omega) ht'.2, by omega⟩
        · cases e; exact ⟨d, le⟩
  have fin : ∃ z, whileR (paN s) paT paF (s, [], 0) = .inr z ∧ m_paper s = (paG z, z.2.1) := by
    unfold m_paper
    cases e : whileR (paN s) paT paF (s, [], 0) with
    | inr z => exact ⟨z, rfl, rfl⟩
    | inl r => exact absurd e (noinl _ _ _)
  obtain ⟨z, e1, e2⟩ := fin
  obtain ⟨d, le⟩ := inv _ z e1
  have ht := pp.en z e1
  have e4 : (m_paper s).2 = z.2.1 := by rw [e2]
  rw [e4]
  by_cases lt : z.2.2 < mnS z.1
  · have hd : (m_do z.1 z.2.2).1 = false := by
      have : (decide (z.2.2 < mnS z.1) && (m_do z.1 z.2.2).1) = false := ht
      rw [decide_eq_true lt, Bool.true_and] at this
      exact this
    rw [mn d.n d.m] at lt
    have f := do_fin d.sh d.k0 (by rw [d.n]; omega) (by rw [d.m]; omega)
    have fx := f.up.fix d.off
    refine ⟨z.2.2, (m_do z.1 z.2.2).2, ⟨f.sh, by rw [f.n, d.n], by rw [f.m, d.m], d.k0, d.len, fun i j hh ne => by rw [fx i j hh]; exact d.off i j hh ne, fun i i0 i1 => by rw [fx i i (.inl i1)]; exact d.dg i i0 i1, fun i i0 i1 => f.up.div _ i (by omega) (d.dv i i0 i1), d.eqv.trans f.up.eqv⟩, f.no hd, by omega, by omega⟩
  · rw [mn d.n d.m] at lt
    refine ⟨z.2.2, z.1, d, fun i j hi hj => tf_out fun q => ?_, by omega, by omega⟩
    rw [d.n, d.m] at q
    omega

def TbI (c m : Nat) (t : List (List Int)) : Prop := ∀ row ∈ t, row.length = c ∧ ∀ n ∈ row, -(m : Int) ≤ n ∧ n ≤ m
theorem mapS_all {S α β : Type} {P : β → Prop} (f : S → α → S × β) (h : ∀ z a, P (f z a).2) : ∀ (l : List α) (z : S), ∀ b ∈ (mapS f z l).2, P b
  | [], _, b, hb => by cases hb
  | a :: l, z, b, hb => by
    rcases List.mem_cons.mp hb with rfl | hb
    · exact h z a
    · exact mapS_all f h l _ b hb
theorem row_ok (box : Bx) {c w : Int} (hc : 0 ≤ c) (h0 : 0 < w) (h1 : w ≤ 61) : (m__law_row box c w).1.length = c.toNat ∧ ∀ n ∈ (m__law_row box c w).1, -((30 : Nat) : Int) ≤ n ∧ n ≤ ((30 : Nat) : Int) := by
  refine ⟨?_, ?_⟩
  · show (mapS _ _ _).2.length = _
    rw [mapS_length, rng_length]
  · refine mapS_all (P := fun n => -((30 : Nat) : Int) ≤ n ∧ n ≤ ((30 : Nat) : Int)) _ (fun z a => ?_) _ _
    have := take_or z w
    show -((30 : Nat) : Int) ≤ (m__law_take z w).1 - w / 2 ∧ (m__law_take z w).1 - w / 2 ≤ ((30 : Nat) : Int)
    omega
theorem set_ok {c m : Nat} {t : List (List Int)} {n : Int} {row : List Int} (h : TbI c m t) (hr : row.length = c ∧ ∀ x ∈ row, -(m : Int) ≤ x ∧ x ≤ m) : TbI c m (setA t n row) := fun r hr2 => by
  rcases List.mem_or_eq_of_mem_set hr2 with hr2 | rfl
  · exact h r hr2
  · exact hr
theorem TbI.up {c m k : Nat} {t : List (List Int)} (h : TbI c m t) (hk : m ≤ k) : TbI c k t := fun r hr => ⟨(h r hr).1, fun n hn => by have := (h r hr).2 n hn; omega⟩
theorem often_ok {c m k : Nat} {row : List Int} {o : Int} (h : row.length = c ∧ ∀ x ∈ row, -(m : Int) ≤ x ∧ x ≤ m) (h1 : -(k : Int) ≤ o) (h2 : o ≤ k) : (List.map (fun (number : Int) => o * number) row).length = c ∧ ∀ x ∈ List.map (fun (number : Int) => o * number) row, -((k * m : Nat) : Int) ≤ x ∧ x ≤ ((k * m : Nat) : Int) := by
  refine ⟨by rw [List.length_map]; exact h.1, fun x hx => ?_⟩
  obtain ⟨y, hy, rfl⟩ := List.mem_map.mp hx
  obtain ⟨a, b⟩ := h.2 y hy
  have hn : (o * y).natAbs ≤ k * m := by
    rw [Int.natAbs_mul]
    exact Nat.mul_le_mul (by omega) (by omega)
  omega
theorem wide61 (box : Bx) (most : Int) : 0 < v__law_table_wide3 box most ∧ v__law_table_wide3 box most ≤ 61 := by
  unfold v__law_table_wide3
  have h := take_or (m__law_take (m__law_take box (most + (1 : Int))).2 (most + (1 : Int))).2 (4 : Int)
  have h2 : (m__law_take (m__law_take (m__law_take box (most + (1 : Int))).2 (most + (1 : Int))).2 (4 : Int)).1 ∈ rng 4 := by
    unfold rng
    exact List.mem_map.mpr ⟨(m__law_take (m__law_take (m__law_take box (most + (1 : Int))).2 (most + (1 : Int))).2 (4 : Int)).1.toNat, List.mem_range.mpr (by omega), by omega⟩
  have h3 : ((rng 4).all fun i => decide (0 < getA [(3 : Int), (5 : Int), (13 : Int), (61 : Int)] i) && decide (getA [(3 : Int), (5 : Int), (13 : Int), (61 : Int)] i ≤ 61)) = true := by decide
  have h4 := List.all_eq_true.mp h3 _ h2
  rw [Bool.and_eq_true] at h4
  exact ⟨of_decide_eq_true h4.1, of_decide_eq_true h4.2⟩
theorem table_res (box : Bx) : ∃ r c : Nat, r ≤ 3 ∧ c ≤ 3 ∧ (m__law_table box 3).1.length = r ∧ TbI c 360 (m__law_table box 3).1 := by
  have hr : 0 ≤ v__law_table_rows1 box 3 ∧ v__law_table_rows1 box 3 ≤ 3 := by
    unfold v__law_table_rows1; have := take_or box ((3 : Int) + (1 : Int)); omega
  have hc : 0 ≤ v__law_table_columns2 box 3 ∧ v__law_table_columns2 box 3 ≤ 3 := by
    unfold v__law_table_columns2; have := take_or (m__law_take box ((3 : Int) + (1 : Int))).2 ((3 : Int) + (1 : Int)); omega
  have hw := wide61 box 3
  have l4 := found4_len box 3
  have l8 := j8_len box 3
  have f4 : TbI (v__law_table_columns2 box 3).toNat 30 (v__law_table_found4 box 3) := by
    unfold v__law_table_found4
    refine mapS_all (P := fun row : List Int => row.length = (v__law_table_columns2 box 3).toNat ∧ ∀ n ∈ row, -((30 : Nat) : Int) ≤ n ∧ n ≤ ((30 : Nat) : Int)) _ (fun z a => ?_) _ _
    exact row_ok z hc.1 hw.1 hw.2
  have f8 : TbI (v__law_table_columns2 box 3).toNat 60 (v__law_table_j8 box 3).2 := by
    unfold v__law_table_j8
    split
    · rename_i h
      rw [Bool.and_eq_true] at h
      have h1 := of_decide_eq_true h.1
      refine set_ok (f4.up (by decide)) (often_ok (m := 30) (k := 2) (f4 _ (getA_mem ?_ ?_)) ?_ ?_)
      · unfold v__law_table_other6
        have := take_or (m__law_take (if (decide ((1 : Int) < (v__law_table_rows1 box 3))) = true then (m__law_take (mapS (fun (zb : Bx) (row : Int) => ((m__law_row zb (v__law_table_columns2 box 3) (v__law_table_wide3 box 3)).2, (m__law_row zb (v__law_table_columns2 box 3) (v__law_table_wide3 box 3)).1)) (m__law_take (m__law_take (m__law_take box ((3 : Int) + (1 : Int))).2 ((3 : Int) + (1 : Int))).2 (4 : Int)).2 (rng (v__law_table_rows1 box 3))).1 (3 : Int)).2 else (mapS (fun (zb : Bx) (row : Int) => ((m__law_row zb (v__law_table_columns2 box 3) (v__law_table_wide3 box 3)).2, (m__law_row zb (v__law_table_columns2 box 3) (v__law_table_wide3 box 3)).1)) (m__law_take (m__law_take (m__law_take box ((3 : Int) + (1 : Int))).2 ((3 : Int) + (1 : Int))).2 (4 : Int)).2 (rng (v__law_table_rows1 box 3))).1) (v__law_table_rows1 box 3)).2 (v__law_table_rows1 box 3)
        omega
      · rw [l4]
        unfold v__law_table_other6
        have := take_or (m__law_take (if (decide ((1 : Int) < (v__law_table_rows1 box 3))) = true then (m__law_take (mapS (fun (zb : Bx) (row : Int) => ((m__law_row zb (v__law_table_columns2 box 3) (v__law_table_wide3 box 3)).2, (m__law_row zb (v__law_table_columns2 box 3) (v__law_table_wide3 box 3)).1)) (m__law_take (m__law_take (m__law_take box ((3 : Int) + (1 : Int))).2 ((3 : Int) + (1 : Int))).2 (4 : Int)).2 (rng (v__law_table_rows1 box 3))).1 (3 : Int)).2 else (mapS (fun (zb : Bx) (row : Int) => ((m__law_row zb (v__law_table_columns2 box 3) (v__law_table_wide3 box 3)).2, (m__law_row zb (v__law_table_columns2 box 3) (v__law_table_wide3 box 3)).1)) (m__law_take (m__law_take (m__law_take box ((3 : Int) + (1 : Int))).2 ((3 : Int) + (1 : Int))).2 (4 : Int)).2 (rng (v__law_table_rows1 box 3))).1) (v__law_table_rows1 box 3)).2 (v__law_table_rows1 box 3)
        omega
      · unfold v__law_table_often7
        have := fun b => take_or b (5 : Int)
        have h9 : ∀ b, -((2 : Nat) : Int) ≤ (m__law_take b (5 : Int)).1 - (2 : Int) ∧ (m__law_take b (5 : Int)).1 - (2 : Int) ≤ ((2 : Nat) : Int) := fun b => by have := this b; omega
        first | exact (h9 _).1 | exact (h9 _).2
      · unfold v__law_table_often7
        have := fun b => take_or b (5 : Int)
        have h9 : ∀ b, -((2 : Nat) : Int) ≤ (m__law_take b (5 : Int)).1 - (2 : Int) ∧ (m__law_take b (5 : Int)).1 - (2 : Int) ≤ ((2 : Nat) : Int) := fun b => by have := this b; omega
        first | exact (h9 _).1 | exact (h9 _).2
    · exact f4.up (by decide)
  refine ⟨(v__law_table_rows1 box 3).toNat, (v__law_table_columns2 box 3).toNat, by omega, by omega, ?_, ?_⟩
  · show (v__law_table_j11 box 3).2.length = _
    unfold v__law_table_j11
    split
    · show (setA _ _ _).length = _
      rw [setA_len, l8]
    · exact l8
  · show TbI _ _ (v__law_table_j11 box 3).2
    unfold v__law_table_j11
    split
    · rename_i h
      rw [Bool.and_eq_true] at h
      have h1 := of_decide_eq_true h.1
      have t9 := take_or (if (decide ((0 : Int) < (v__law_table_rows1 box 3))) = true then (m__law_take (v__law_table_j8 box 3).1 (3 : Int)).2 else (v__law_table_j8 box 3).1) (v__law_table_rows1 box 3)
      refine set_ok (f8.up (by decide)) (often_ok (m := 60) (k := 6) (f8 _ (getA_mem ?_ ?_)) ?_ ?_)
      · unfold v__law_table_one9; omega
      · rw [l8]; unfold v__law_table_one9; omega
      · unfold v__law_table_often10
        have := take_or (m__law_take (if (decide ((0 : Int) < (v__law_table_rows1 box 3))) = true then (m__law_take (v__law_table_j8 box 3).1 (3 : Int)).2 else (v__law_table_j8 box 3).1) (v__law_table_rows1 box 3)).2 (6 : Int)
        omega
      · unfold v__law_table_often10
        have := take_or (m__law_take (if (decide ((0 : Int) < (v__law_table_rows1 box 3))) = true then (m__law_take (v__law_table_j8 box 3).1 (3 : Int)).2 else (v__law_table_j8 box 3).1) (v__law_table_rows1 box 3)).2 (6 : Int)
        omega
    · exact f8.up (by decide)
theorem table22 (box : Bx) : (m__law_table box 3).1.length ≤ 3 ∧ ∃ c : Nat, c ≤ 3 ∧ TbOk c 360 (m__law_table box 3).1 := by
  obtain ⟨r, c, h1, h2, h3, h4⟩ := table_res box
  exact ⟨by omega, c, h2, fun row hr => ⟨(h4 row hr).1, fun n hn => by have := (h4 row hr).2 n hn; omega⟩⟩

theorem dvd_fold {α : Type} {F : Int → α → Int} {P : Int → α → Prop} (hF : ∀ z x d, d ∣ F z x ↔ d ∣ z ∧ P d x) : ∀ (l : List α) (z d : Int), d ∣ l.foldl F z ↔ d ∣ z ∧ ∀ x ∈ l, P d x
  | [], z, d => ⟨fun h => ⟨h, fun x hx => absurd hx List.not_mem_nil⟩, fun h => h.1⟩
  | x :: l, z, d => by
    rw [List.foldl_cons, dvd_fold hF l, hF]
    constructor
    · rintro ⟨⟨h1, h2⟩, h3⟩
      exact ⟨h1, fun y hy => (List.mem_cons.mp hy).elim (fun e => e ▸ h2) (h3 y)⟩
    · rintro ⟨h1, h2⟩
      exact ⟨⟨h1, h2 x List.mem_cons_self⟩, fun y hy => h2 y (List.mem_cons_of_mem _ hy)⟩
theorem dvd_divisor (t : List (List Int)) (many d : Int) : d ∣ m__law_divisor t many ↔ ∀ rows ∈ m__law_choices ((t.length : Nat) : Int) many, ∀ places ∈ m__law_choices (m__law_wide t) many, d ∣ m__law_determinant 5 (v__law_divisor_square2 t rows places) := by
  show d ∣ (m__law_choices ((t.length : Nat) : Int) many).foldl (v__law_divisor_f6 t many) 0 ↔ _
  rw [dvd_fold (P := fun d rows => ∀ places ∈ m__law_choices (m__law_wide t) many, d ∣ m__law_determinant 5 (v__law_divisor_square2 t rows places)) (fun z rows d => ?_)]
  · exact ⟨fun h => h.2, fun h => ⟨Int.dvd_zero _, h⟩⟩
  · show d ∣ (m__law_choices (m__law_wide t) many).foldl (v__law_divisor_f4 t z rows) z ↔ _
    exact dvd_fold (P := fun d places => d ∣ m__law_determinant 5 (v__law_divisor_square2 t rows places)) (fun z' places d => (common_dvd _ _).2 d) _ _ _
theorem by_dvd {a b : Int} (ha : 0 ≤ a) (hb : 0 ≤ b) (h : ∀ d, d ∣ a ↔ d ∣ b) : a = b := by
  have h1 := (h a).mp (Int.dvd_refl _)
  have h2 := (h b).mpr (Int.dvd_refl _)
  exact Int.dvd_antisymm ha hb h1 h2
theorem ch1 {size : Int} (h0 : 0 ≤ size) (h1 : size ≤ 3) : m__law_choices size 1 = (rng size).map fun i => [i] := by
  have : size = 0 ∨ size = 1 ∨ size = 2 ∨ size = 3 := by omega
  rcases this with e | e | e | e <;> subst e <;> decide +kernel
theorem ch2 {size : Int} (h0 : 0 ≤ size) (h1 : size ≤ 3) {p : List Int} : p ∈ m__law_choices size 2 ↔ ∃ i j, p = [i, j] ∧ 0 ≤ i ∧ i < j ∧ j < size := by
  have e0 : m__law_choices 0 2 = [] := by decide +kernel
  have e1 : m__law_choices 1 2 = [] := by decide +kernel
  have e2 : m__law_choices 2 2 = [[0, 1]] := by decide +kernel
  have e3 : m__law_choices 3 2 = [[0, 1], [0, 2], [1, 2]] := by decide +kernel
  have : size = 0 ∨ size = 1 ∨ size = 2 ∨ size = 3 := by omega
  rcases this with e | e | e | e <;> subst e
  · rw [e0]; exact ⟨fun h => absurd h List.not_mem_nil, fun ⟨i, j, _, a, b, c⟩ => by omega⟩
  · rw [e1]; exact ⟨fun h => absurd h List.not_mem_nil, fun ⟨i, j, _, a, b, c⟩ => by omega⟩
  · rw [e2]
    constructor
    · intro h
      rw [List.mem_singleton.mp h]
      exact ⟨0, 1, rfl, by decide, by decide, by decide⟩
    · rintro ⟨i, j, rfl, a, b, c⟩
      rw [show i = 0 by omega, show j = 1 by omega]
      exact List.mem_singleton.mpr rfl
  · rw [e3]
    constructor
    · intro h
      simp only [List.mem_cons, List.not_mem_nil, or_false] at h
      rcases h with h | h | h <;> subst h
      · exact ⟨0, 1, rfl, by decide, by decide, by decide⟩
      · exact ⟨0, 2, rfl, by decide, by decide, by decide⟩
      · exact ⟨1, 2, rfl, by decide, by decide, by decide⟩
    · rintro ⟨i, j, rfl, a, b, c⟩
      have : (i = 0 ∧ j = 1) ∨ (i = 0 ∧ j = 2) ∨ (i = 1 ∧ j = 2) := by omega
      rcases this with ⟨h, k⟩ | ⟨h, k⟩ | ⟨h, k⟩ <;> rw [h, k] <;> simp
theorem ch3 {size : Int} (h0 : 0 ≤ size) (h1 : size ≤ 3) {p : List Int} : p ∈ m__law_choices size 3 ↔ p = [0, 1, 2] ∧ size = 3 := by
  have e0 : m__law_choices 0 3 = [] := by decide +kernel
  have e1 : m__law_choices 1 3 = [] := by decide +kernel
  have e2 : m__law_choices 2 3 = [] := by decide +kernel
  have e3 : m__law_choices 3 3 = [[0, 1, 2]] := by decide +kernel
  have : size = 0 ∨ size = 1 ∨ size = 2 ∨ size = 3 := by omega
  rcases this with e | e | e | e <;> subst e
  · rw [e0]; exact ⟨fun h => absurd h List.not_mem_nil, fun h => by omega⟩
  · rw [e1]; exact ⟨fun h => absurd h List.not_mem_nil, fun h => by omega⟩
  · rw [e2]; exact ⟨fun h => absurd h List.not_mem_nil, fun h => by omega⟩
  · rw [e3]; exact ⟨fun h => ⟨List.mem_singleton.mp h, rfl⟩, fun h => List.mem_singleton.mpr h.1⟩

theorem rng_mem' {n i : Int} (h : 0 ≤ i ∧ i < n) : i ∈ rng n := by
  unfold rng
  exact List.mem_map.mpr ⟨i.toNat, List.mem_range.mpr (by omega), by omega⟩
theorem cd2_of {d : Int} {a : Mx} {n m : Int} (hz : ∀ i j, ¬ ((0 ≤ i ∧ i < n) ∧ 0 ≤ j ∧ j < m) → a i j = 0) (h : ∀ i1 i2 j1 j2, 0 ≤ i1 → i1 < i2 → i2 < n → 0 ≤ j1 → j1 < j2 → j2 < m → d ∣ d2 a i1 i2 j1 j2) : CD2 d a := by
  have h1 : ∀ i1 i2 j1 j2, i1 < i2 → j1 < j2 → d ∣ d2 a i1 i2 j1 j2 := fun i1 i2 j1 j2 c1 c2 => by
    by_cases c : (0 ≤ i1 ∧ i2 < n) ∧ 0 ≤ j1 ∧ j2 < m
    · exact h i1 i2 j1 j2 c.1.1 c1 c.1.2 c.2.1 c2 c.2.2
    · have : d2 a i1 i2 j1 j2 = 0 := by
        unfold d2
        by_cases e1 : 0 ≤ i1
        · by_cases e2 : i2 < n
          · by_cases e3 : 0 ≤ j1
            · rw [hz i2 j2 (by omega), hz i1 j2 (by omega)]; simp
            · rw [hz i1 j1 (by omega), hz i2 j1 (by omega)]; simp
          · rw [hz i2 j2 (by omega), hz i2 j1 (by omega)]; simp
        · rw [hz i1 j1 (by omega), hz i1 j2 (by omega)]; simp
      rw [this]; exact Int.dvd_zero _
  have h2 : ∀ i1 i2 j1 j2, i1 < i2 → d ∣ d2 a i1 i2 j1 j2 := fun i1 i2 j1 j2 c1 => by
    rcases Int.lt_trichotomy j1 j2 with c | c | c
    · exact h1 i1 i2 j1 j2 c1 c
    · rw [c, d2_same2]; exact Int.dvd_zero _
    · rw [d2_tc]; exact Int.dvd_neg.mpr (h1 i1 i2 j2 j1 c1 c)
  intro i1 i2 j1 j2
  rcases Int.lt_trichotomy i1 i2 with c | c | c
  · exact h2 i1 i2 j1 j2 c
  · rw [c, d2_same1]; exact Int.dvd_zero _
  · rw [d2_tr]; exact Int.dvd_neg.mpr (h2 i2 i1 j1 j2 c)
theorem r3_sort {d : Int} {a : Mx} {j1 j2 j3 : Int} (h : ∀ i1 i2 i3, i1 < i2 → i2 < i3 → d ∣ d3 a i1 i2 i3 j1 j2 j3) (i1 i2 i3 : Int) : d ∣ d3 a i1 i2 i3 j1 j2 j3 := by
  have R12 : ∀ {i1 i2 i3 : Int}, d3 a i1 i2 i3 j1 j2 j3 = -d3 a i2 i1 i3 j1 j2 j3 := by intros; unfold d3 d2; grind
  have R23 : ∀ {i1 i2 i3 : Int}, d3 a i1 i2 i3 j1 j2 j3 = -d3 a i1 i3 i2 j1 j2 j3 := by intros; unfold d3 d2; grind
  have E12 : ∀ {i k : Int}, d3 a i i k j1 j2 j3 = 0 := by intros; unfold d3 d2; grind
  have E23 : ∀ {i k : Int}, d3 a k i i j1 j2 j3 = 0 := by intros; unfold d3 d2; grind
  -- the last two in order, then the first
  have s1 : ∀ i1 i2 i3, i2 < i3 → d ∣ d3 a i1 i2 i3 j1 j2 j3 := fun i1 i2 i3 c => by
    rcases Int.lt_trichotomy i1 i2 with c1 | c1 | c1
    · exact h i1 i2 i3 c1 c
    · rw [c1, E12]; exact Int.dvd_zero _
    · rw [R12]
      rcases Int.lt_trichotomy i1 i3 with c2 | c2 | c2
      · exact Int.dvd_neg.mpr (h i2 i1 i3 c1 c2)
      · rw [c2, E23]; exact Int.dvd_neg.mpr (Int.dvd_zero _)
      · rw [R23, Int.neg_neg]; exact h i2 i3 i1 c c2
  rcases Int.lt_trichotomy i2 i3 with c | c | c
  · exact s1 i1 i2 i3 c
  · rw [c, E23]; exact Int.dvd_zero _
  · rw [R23]; exact Int.dvd_neg.mpr (s1 i1 i3 i2 c)
theorem cd3_of {d : Int} {a : Mx} {n m : Int} (hn : n ≤ 3) (hm : m ≤ 3) (hz : ∀ i j, ¬ ((0 ≤ i ∧ i < n) ∧ 0 ≤ j ∧ j < m) → a i j = 0) (h : d ∣ d3 a 0 1 2 0 1 2) : CD3 d a := by
  have rows : ∀ j1 j2 j3, d ∣ d3 a 0 1 2 j1 j2 j3 → ∀ i1 i2 i3, d ∣ d3 a i1 i2 i3 j1 j2 j3 := fun j1 j2 j3 hh => r3_sort fun i1 i2 i3 c1 c2 => by
    by_cases c : 0 ≤ i1 ∧ i3 < 3
    · rw [show i1 = 0 by omega, show i2 = 1 by omega, show i3 = 2 by omega]; exact hh
    · have : d3 a i1 i2 i3 j1 j2 j3 = 0 := by
        unfold d3 d2
        by_cases e : 0 ≤ i1
        · rw [hz i3 j1 (by omega), hz i3 j2 (by omega), hz i3 j3 (by omega)]; grind
        · rw [hz i1 j1 (by omega), hz i1 j2 (by omega), hz i1 j3 (by omega)]; grind
      rw [this]; exact Int.dvd_zero _
  intro i1 i2 i3 j1 j2 j3
  refine rows j1 j2 j3 ?_ i1 i2 i3
  rw [← d3_tp]
  refine r3_sort (fun i1 i2 i3 c1 c2 => ?_) _ _ _
  by_cases c : 0 ≤ i1 ∧ i3 < 3
  · rw [show i1 = 0 by omega, show i2 = 1 by omega, show i3 = 2 by omega, d3_tp]; exact h
  · have : d3 (tp a) i1 i2 i3 0 1 2 = 0 := by
      unfold d3 d2 tp
      by_cases e : 0 ≤ i1
      · rw [hz 0 i3 (by omega), hz 1 i3 (by omega), hz 2 i3 (by omega)]; grind
      · rw [hz 0 i1 (by omega), hz 1 i1 (by omega), hz 2 i1 (by omega)]; grind
    rw [this]; exact Int.dvd_zero _
section
variable {t : List (List Int)} (h : TbOk22 t)
include h
theorem tf22 {i j : Int} : tf (ss0 t.length (m__law_wide t) t m_even) i j = if (0 ≤ i ∧ i < (t.length : Int)) ∧ 0 ≤ j ∧ j < m__law_wide t then at2 t i j else 0 := rfl
theorem tf22_in {i j : Int} (h1 : 0 ≤ i ∧ i < (t.length : Int)) (h2 : 0 ≤ j ∧ j < m__law_wide t) : tf (ss0 t.length (m__law_wide t) t m_even) i j = getA (getA t i) j := by rw [tf22 h, if_pos ⟨h1, h2⟩]; rfl
theorem tf22_out {i j : Int} (c : ¬ ((0 ≤ i ∧ i < (t.length : Int)) ∧ 0 ≤ j ∧ j < m__law_wide t)) : tf (ss0 t.length (m__law_wide t) t m_even) i j = 0 := by rw [tf22 h, if_neg c]
theorem dv1 {d : Int} : d ∣ m__law_divisor t 1 ↔ CD1 d (tf (ss0 t.length (m__law_wide t) t m_even)) := by
  obtain ⟨w0, w1, w2⟩ := wide22 h
  have hl := h.1
  rw [dvd_divisor, ch1 (by omega) (by omega), ch1 w0 w1]
  constructor
  · intro k i j
    by_cases c : (0 ≤ i ∧ i < (t.length : Int)) ∧ 0 ≤ j ∧ j < m__law_wide t
    · rw [tf22_in h c.1 c.2]
      have := k [i] (List.mem_map.mpr ⟨i, rng_mem' c.1, rfl⟩) [j] (List.mem_map.mpr ⟨j, rng_mem' c.2, rfl⟩)
      rw [show v__law_divisor_square2 t [i] [j] = [[getA (getA t i) j]] from rfl, det1] at this
      exact this
    · rw [tf22_out h c]; exact Int.dvd_zero _
  · intro k rows hr places hp
    obtain ⟨i, hi, rfl⟩ := List.mem_map.mp hr
    obtain ⟨j, hj, rfl⟩ := List.mem_map.mp hp
    rw [show v__law_divisor_square2 t [i] [j] = [[getA (getA t i) j]] from rfl, det1, ← tf22_in h (mem_rng hi) (mem_rng hj)]
    exact k i j
theorem dv2 {d : Int} : d ∣ m__law_divisor t 2 ↔ CD2 d (tf (ss0 t.length (m__law_wide t) t m_even)) := by
  obtain ⟨w0, w1, w2⟩ := wide22 h
  have hl := h.1
  have ed : ∀ i1 i2 j1 j2, 0 ≤ i1 → i1 < i2 → i2 < (t.length : Int) → 0 ≤ j1 → j1 < j2 → j2 < m__law_wide t → m__law_determinant 5 (v__law_divisor_square2 t [i1, i2] [j1, j2]) = d2 (tf (ss0 t.length (m__law_wide t) t m_even)) i1 i2 j1 j2 := fun i1 i2 j1 j2 a b c a' b' c' => by
    rw [show v__law_divisor_square2 t [i1, i2] [j1, j2] = [[getA (getA t i1) j1, getA (getA t i1) j2], [getA (getA t i2) j1, getA (getA t i2) j2]] from rfl, det2']
    unfold d2
    rw [tf22_in h ⟨a, by omega⟩ ⟨a', by omega⟩, tf22_in h ⟨a, by omega⟩ ⟨by omega, c'⟩, tf22_in h ⟨by omega, c⟩ ⟨a', by omega⟩, tf22_in h ⟨by omega, c⟩ ⟨by omega, c'⟩]
  rw [dvd_divisor]
  constructor
  · intro k
    refine cd2_of (n := t.length) (m := m__law_wide t) (fun i j c => tf22_out h c) fun i1 i2 j1 j2 a b c a' b' c' => ?_
    rw [← ed i1 i2 j1 j2 a b c a' b' c']
    exact k _ ((ch2 (by omega) (by omega)).mpr ⟨i1, i2, rfl, a, b, c⟩) _ ((ch2 w0 w1).mpr ⟨j1, j2, rfl, a', b', c'⟩)
  · intro k rows hr places hp
    obtain ⟨i1, i2, rfl, a, b, c⟩ := (ch2 (by omega) (by omega)).mp hr
    obtain ⟨j1, j2, rfl, a', b', c'⟩ := (ch2 w0 w1).mp hp
    rw [ed i1 i2 j1 j2 a b c a' b' c']
    exact k _ _ _ _
theorem dv3 {d : Int} : d ∣ m__law_divisor t 3 ↔ CD3 d (tf (ss0 t.length (m__law_wide t) t m_even)) := by
  obtain ⟨w0, w1, w2⟩ := wide22 h
  have hl := h.1
  rw [dvd_divisor]
  have ed : (t.length : Int) = 3 → m__law_wide t = 3 → m__law_determinant 5 (v__law_divisor_square2 t [0, 1, 2] [0, 1, 2]) = d3 (tf (ss0 t.length (m__law_wide t) t m_even)) 0 1 2 0 1 2 := fun e1 e2 => by
    rw [show v__law_divisor_square2 t [0, 1, 2] [0, 1, 2] = [[getA (getA t 0) 0, getA (getA t 0) 1, getA (getA t 0) 2], [getA (getA t 1) 0, getA (getA t 1) 1, getA (getA t 1) 2], [getA (getA t 2) 0, getA (getA t 2) 1, getA (getA t 2) 2]] from rfl, det3']
    have g : ∀ i j, 0 ≤ i → i < 3 → 0 ≤ j → j < 3 → getA (getA t i) j = tf (ss0 t.length (m__law_wide t) t m_even) i j := fun i j a b c d => (tf22_in h ⟨a, by omega⟩ ⟨c, by omega⟩).symm
    rw [g 0 0 (by decide) (by decide) (by decide) (by decide), g 0 1 (by decide) (by decide) (by decide) (by decide), g 0 2 (by decide) (by decide) (by decide) (by decide), g 1 0 (by decide) (by decide) (by decide) (by decide), g 1 1 (by decide) (by decide) (by decide) (by decide), g 1 2 (by decide) (by decide) (by decide) (by decide), g 2 0 (by decide) (by decide) (by decide) (by decide), g 2 1 (by decide) (by decide) (by decide) (by decide), g 2 2 (by decide) (by decide) (by decide) (by decide)]
    unfold d3 d2
    grind
  constructor
  · intro k
    refine cd3_of (n := t.length) (m := m__law_wide t) (by omega) (by omega) (fun i j c => tf22_out h c) ?_
    by_cases e1 : (t.length : Int) = 3
    · by_cases e2 : m__law_wide t = 3
      · rw [← ed e1 e2]
        exact k _ ((ch3 (by omega) (by omega)).mpr ⟨rfl, e1⟩) _ ((ch3 w0 w1).mpr ⟨rfl, e2⟩)
      · have : d3 (tf (ss0 t.length (m__law_wide t) t m_even)) 0 1 2 0 1 2 = 0 := by
          unfold d3 d2
          rw [tf22_out h (i := 0) (j := 2) (by omega), tf22_out h (i := 1) (j := 2) (by omega), tf22_out h (i := 2) (j := 2) (by omega)]; grind
        rw [this]; exact Int.dvd_zero _
    · have : d3 (tf (ss0 t.length (m__law_wide t) t m_even)) 0 1 2 0 1 2 = 0 := by
        unfold d3 d2
        rw [tf22_out h (i := 2) (j := 0) (by omega), tf22_out h (i := 2) (j := 1) (by omega), tf22_out h (i := 2) (j := 2) (by omega)]; grind
      rw [this]; exact Int.dvd_zero _
  · intro k rows hr places hp
    obtain ⟨rfl, e1⟩ := (ch3 (by omega) (by omega)).mp hr
    obtain ⟨rfl, e2⟩ := (ch3 w0 w1).mp hp
    rw [ed e1 e2]
    exact k _ _ _ _ _ _
end
section
variable {s z : SS} {k : Int} {l : List Int} (g : DG s k z l) (z0 : ∀ i j, k ≤ i → k ≤ j → tf z i j = 0) (hn : s.n ≤ 3) (hm : s.m ≤ 3)
include g z0
theorem dg_off {i j : Int} (ne : i ≠ j) : tf z i j = 0 := by
  by_cases c : i < k ∨ j < k
  · exact g.off i j c ne
  · exact z0 i j (by omega) (by omega)
theorem dgA {d : Int} : CD1 d (tf z) ↔ d ∣ (if 1 ≤ k then getA l 0 else 0) := by
  have k0 := g.k0
  constructor
  · intro h
    split
    · rw [← (g.dg 0 (Int.le_refl _) (by omega)).1]; exact h 0 0
    · exact Int.dvd_zero _
  · intro h i j
    by_cases c : 1 ≤ k
    · rw [if_pos c] at h
      by_cases c2 : 0 ≤ i ∧ 0 ≤ j
      · exact Int.dvd_trans h (g.dv 0 (Int.le_refl _) (by omega) i j c2.1 c2.2)
      · rw [tf_neg (by omega)]; exact Int.dvd_zero _
    · by_cases c2 : 0 ≤ i ∧ 0 ≤ j
      · rw [z0 i j (by omega) (by omega)]; exact Int.dvd_zero _
      · rw [tf_neg (by omega)]; exact Int.dvd_zero _
theorem dgB {d : Int} : CD2 d (tf z) ↔ d ∣ (if 2 ≤ k then getA l 0 * getA l 1 else 0) := by
  have k0 := g.k0
  constructor
  · intro h
    split
    · have := h 0 1 0 1
      unfold d2 at this
      rw [dg_off g z0 (i := 0) (j := 1) (by decide), (g.dg 0 (Int.le_refl _) (by omega)).1, (g.dg 1 (by decide) (by omega)).1] at this
      simpa using this
    · exact Int.dvd_zero _
  · intro h
    refine cd2_of (n := z.n) (m := z.m) (fun i j c => tf_out c) fun i1 i2 j1 j2 a b c a' b' c' => ?_
    have e : d2 (tf z) i1 i2 j1 j2 = tf z i1 j1 * tf z i2 j2 := by
      unfold d2
      by_cases e : i1 = j2
      · rw [dg_off g z0 (i := i2) (j := j1) (by omega)]; simp
      · rw [dg_off g z0 e]; simp
    rw [e]
    by_cases c1 : i1 = j1
    · by_cases c2 : i2 = j2
      · by_cases ck : 2 ≤ k
        · rw [if_pos ck] at h
          exact Int.dvd_trans h (Int.mul_dvd_mul (g.dv 0 (Int.le_refl _) (by omega) i1 j1 a a') (g.dv 1 (by decide) (by omega) i2 j2 (by omega) (by omega)))
        · rw [z0 i2 j2 (by omega) (by omega)]; simp
      · rw [dg_off g z0 c2]; simp
    · rw [dg_off g z0 c1]; simp
theorem dgC (hn : s.n ≤ 3) (hm : s.m ≤ 3) {d : Int} : CD3 d (tf z) ↔ d ∣ (if 3 ≤ k then getA l 0 * getA l 1 * getA l 2 else 0) := by
  have k0 := g.k0
  have e : d3 (tf z) 0 1 2 0 1 2 = tf z 0 0 * tf z 1 1 * tf z 2 2 := by
    unfold d3 d2
    rw [dg_off g z0 (i := 0) (j := 1) (by decide), dg_off g z0 (i := 0) (j := 2) (by decide), dg_off g z0 (i := 1) (j := 2) (by decide)]
    grind
  constructor
  · intro h
    split
    · have := h 0 1 2 0 1 2
      rw [e, (g.dg 0 (Int.le_refl _) (by omega)).1, (g.dg 1 (by decide) (by omega)).1, (g.dg 2 (by decide) (by omega)).1] at this
      exact this
    · exact Int.dvd_zero _
  · intro h
    refine cd3_of (n := z.n) (m := z.m) (by rw [g.n]; exact hn) (by rw [g.m]; exact hm) (fun i j c => tf_out c) ?_
    rw [e]
    by_cases ck : 3 ≤ k
    · rw [if_pos ck] at h
      rw [(g.dg 0 (Int.le_refl _) (by omega)).1, (g.dg 1 (by decide) (by omega)).1, (g.dg 2 (by decide) (by omega)).1]
      exact h
    · rw [z0 2 2 (by omega) (by omega)]; simp
end
theorem width_wide (t : List (List Int)) : m_width t = m__law_wide t := by
  cases t with
  | nil => rfl
  | cons r t =>
    unfold m_width m__law_wide
    rw [if_neg (by rw [decide_eq_true_eq]; intro h; rw [List.length_cons] at h; omega), if_pos (by simp [eqB])]
theorem tbok22 {t : List (List Int)} (h : TbOk22 t) : TbOk (m__law_wide t).toNat 360 t := fun row hr => by
  obtain ⟨w0, w1, w2⟩ := wide22 h
  obtain ⟨_, c, _, h3⟩ := h
  exact ⟨by have := w2 row hr; omega, (h3 row hr).2⟩
theorem pap22 {t : List (List Int)} (h : TbOk22 t) : PapOk t.length (m__law_wide t) t := by
  obtain ⟨w0, w1, w2⟩ := wide22 h
  have := papOk3 (tbok22 h) h.1 (by omega)
  rw [show (((m__law_wide t).toNat : Nat) : Int) = m__law_wide t by omega] at this
  exact this
theorem D22 {t : List (List Int)} (h : TbOk22 t) : ∃ k : Nat, (m_paper (ss0 t.length (m__law_wide t) t m_even)).2.length = k ∧ (k : Int) ≤ t.length ∧ (k : Int) ≤ m__law_wide t ∧ (∀ i : Int, 0 ≤ i → i < k → 0 < getA (m_paper (ss0 t.length (m__law_wide t) t m_even)).2 i) ∧
    m__law_divisor t 1 = (if 1 ≤ k then getA (m_paper (ss0 t.length (m__law_wide t) t m_even)).2 0 else 0) ∧
    m__law_divisor t 2 = (if 2 ≤ k then getA (m_paper (ss0 t.length (m__law_wide t) t m_even)).2 0 * getA (m_paper (ss0 t.length (m__law_wide t) t m_even)).2 1 else 0) ∧
    m__law_divisor t 3 = (if 3 ≤ k then getA (m_paper (ss0 t.length (m__law_wide t) t m_even)).2 0 * getA (m_paper (ss0 t.length (m__law_wide t) t m_even)).2 1 * getA (m_paper (ss0 t.length (m__law_wide t) t m_even)).2 2 else 0) := by
  obtain ⟨w0, w1, w2⟩ := wide22 h
  have hl := h.1
  have p := pap22 h
  obtain ⟨sh, _, _⟩ := start_ok (b := 9) (tbok22 h) (by decide) (by decide)
  rw [show (((m__law_wide t).toNat : Nat) : Int) = m__law_wide t by omega] at sh
  obtain ⟨k, z, g, z0, k1, k2⟩ := paper_dg sh (show (0 : Int) ≤ (t.length : Int) by omega) w0 p.pp
  have k1 : k ≤ (t.length : Int) := k1
  have k2 : k ≤ m__law_wide t := k2
  generalize (m_paper (ss0 t.length (m__law_wide t) t m_even)).2 = l at g
  have k0 := g.k0
  have gl := g.len
  obtain ⟨k, rfl⟩ := Int.eq_ofNat_of_zero_le k0
  have pos : ∀ i : Int, 0 ≤ i → i < (k : Int) → 0 < getA l i := fun i a b => (g.dg i a b).2
  have c1 : (1 ≤ k) = (1 ≤ (k : Int)) := by rw [eq_iff_iff]; omega
  have c2 : (2 ≤ k) = (2 ≤ (k : Int)) := by rw [eq_iff_iff]; omega
  have c3 : (3 ≤ k) = (3 ≤ (k : Int)) := by rw [eq_iff_iff]; omega
  refine ⟨k, by omega, k1, k2, pos, ?_, ?_, ?_⟩
  · refine by_dvd (div_le h (by decide) (by decide)).1 ?_ fun d => ?_
    · split
      · exact Int.le_of_lt (pos 0 (Int.le_refl _) (by omega))
      · exact Int.le_refl _
    · rw [dv1 h, g.eqv.c1 d, dgA g z0]
      by_cases c : 1 ≤ k
      · rw [if_pos c, if_pos (by omega)]
      · rw [if_neg c, if_neg (by omega)]
  · refine by_dvd (div_le h (by decide) (by decide)).1 ?_ fun d => ?_
    · split
      · exact Int.le_of_lt (Int.mul_pos (pos 0 (Int.le_refl _) (by omega)) (pos 1 (by decide) (by omega)))
      · exact Int.le_refl _
    · rw [dv2 h, g.eqv.c2 d, dgB g z0]
      by_cases c : 2 ≤ k
      · rw [if_pos c, if_pos (by omega)]
      · rw [if_neg c, if_neg (by omega)]
  · refine by_dvd (div_le h (by decide) (by decide)).1 ?_ fun d => ?_
    · split
      · exact Int.le_of_lt (Int.mul_pos (Int.mul_pos (pos 0 (Int.le_refl _) (by omega)) (pos 1 (by decide) (by omega))) (pos 2 (by decide) (by omega)))
      · exact Int.le_refl _
    · rw [dv3 h, g.eqv.c3 d, dgC g z0 (show (t.length : Int) ≤ 3 by omega) (show m__law_wide t ≤ 3 by omega)]
      by_cases c : 3 ≤ k
      · rw [if_pos c, if_pos (by omega)]
      · rw [if_neg c, if_neg (by omega)]
theorem f5_no {t : List (List Int)} {m : Int} {f : List Int} {a : Int} (h : m__law_divisor t m = 0) : v__law_steps_f5 t (f, a) m = .inl f := by
  show (if (decide (m__law_divisor t m = 0)) = true then _ else _) = _
  rw [if_pos (decide_eq_true h)]
theorem f5_yes {t : List (List Int)} {m : Int} {f : List Int} {a : Int} (h : m__law_divisor t m ≠ 0) : v__law_steps_f5 t (f, a) m = .inr (f ++ [m__law_divisor t m / a], m__law_divisor t m) := by
  show (if (decide (m__law_divisor t m = 0)) = true then _ else _) = _
  rw [if_neg (by rw [decide_eq_true_eq]; exact h)]; rfl
theorem steps_is {t : List (List Int)} (h : TbOk22 t) : m__law_steps t = (m_paper (ss0 t.length (m__law_wide t) t m_even)).2 := by
  obtain ⟨w0, w1, w2⟩ := wide22 h
  have hl := h.1
  obtain ⟨k, e1, e2, e3, pos, d1, d2, d3⟩ := D22 h
  generalize (m_paper (ss0 t.length (m__law_wide t) t m_even)).2 = l at *
  have mn : ∃ m : Int, (if (m__law_wide t) < ((t).length : Int) then (m__law_wide t) else ((t).length : Int)) = m ∧ 0 ≤ m ∧ m ≤ 3 ∧ (k : Int) ≤ m := ⟨_, rfl, by split <;> omega, by split <;> omega, by split <;> omega⟩
  obtain ⟨m, em, m0, m1, m2⟩ := mn
  unfold m__law_steps
  rw [em]
  show outR (loopR (v__law_steps_f5 t) (([] : List Int), (1 : Int)) _) _ = l
  have r0 : rng2 1 (0 + 1) = [] := by decide
  have r1 : rng2 1 (1 + 1) = [1] := by decide
  have r2 : rng2 1 (2 + 1) = [1, 2] := by decide
  have r3 : rng2 1 (3 + 1) = [1, 2, 3] := by decide
  have ek : k = 0 ∨ k = 1 ∨ k = 2 ∨ k = 3 := by omega
  have ee : m = 0 ∨ m = 1 ∨ m = 2 ∨ m = 3 := by omega
  rcases ek with ek | ek | ek | ek <;> subst ek
  · have l0 : l = [] := List.eq_nil_of_length_eq_zero e1
    have d1 : m__law_divisor t 1 = 0 := d1
    subst l0
    rcases ee with e | e | e | e <;> subst e
    · rw [r0]; rfl
    · rw [r1, loopR, f5_no d1]; rfl
    · rw [r2, loopR, f5_no d1]; rfl
    · rw [r3, loopR, f5_no d1]; rfl
  · obtain ⟨a, rfl⟩ := len1 e1
    have pa : 0 < a := pos 0 (Int.le_refl _) (by decide)
    have d1 : m__law_divisor t 1 = a := d1
    have d2 : m__law_divisor t 2 = 0 := d2
    have y1 : m__law_divisor t 1 ≠ 0 := by omega
    rcases ee with e | e | e | e <;> subst e
    · omega
    · rw [r1, loopR, f5_yes y1, d1, Int.ediv_one]; rfl
    · rw [r2, loopR, f5_yes y1, d1, Int.ediv_one]
      show outR (loopR (v__law_steps_f5 t) ([a], a) [2]) _ = _
      rw [loopR, f5_no d2]; rfl
    · rw [r3, loopR, f5_yes y1, d1, Int.ediv_one]
      show outR (loopR (v__law_steps_f5 t) ([a], a) [2, 3]) _ = _
      rw [loopR, f5_no d2]; rfl
  · obtain ⟨a, b, rfl⟩ := len2 e1
    have pa : 0 < a := pos 0 (Int.le_refl _) (by decide)
    have pb : 0 < b := pos 1 (by decide) (by decide)
    have d1 : m__law_divisor t 1 = a := d1
    have d2 : m__law_divisor t 2 = a * b := d2
    have d3 : m__law_divisor t 3 = 0 := d3
    have pab := Int.mul_pos pa pb
    have y1 : m__law_divisor t 1 ≠ 0 := by omega
    have y2 : m__law_divisor t 2 ≠ 0 := by omega
    rcases ee with e | e | e | e <;> subst e
    · omega
    · omega
    · rw [r2, loopR, f5_yes y1, d1, Int.ediv_one]
      show outR (loopR (v__law_steps_f5 t) ([a], a) [2]) _ = _
      rw [loopR, f5_yes y2, d2, Int.mul_ediv_cancel_left _ (by omega)]; rfl
    · rw [r3, loopR, f5_yes y1, d1, Int.ediv_one]
      show outR (loopR (v__law_steps_f5 t) ([a], a) [2, 3]) _ = _
      rw [loopR, f5_yes y2, d2, Int.mul_ediv_cancel_left _ (by omega)]
      show outR (loopR (v__law_steps_f5 t) ([a, b], a * b) [3]) _ = _
      rw [loopR, f5_no d3]; rfl
  · obtain ⟨a, b, c, rfl⟩ := len3 e1
    have pa : 0 < a := pos 0 (Int.le_refl _) (by decide)
    have pb : 0 < b := pos 1 (by decide) (by decide)
    have pc : 0 < c := pos 2 (by decide) (by decide)
    have d1 : m__law_divisor t 1 = a := d1
    have d2 : m__law_divisor t 2 = a * b := d2
    have d3 : m__law_divisor t 3 = a * b * c := d3
    have pab := Int.mul_pos pa pb
    have pabc := Int.mul_pos pab pc
    have y1 : m__law_divisor t 1 ≠ 0 := by omega
    have y2 : m__law_divisor t 2 ≠ 0 := by omega
    have y3 : m__law_divisor t 3 ≠ 0 := by omega
    have e : m = 3 := by omega
    subst e
    rw [r3, loopR, f5_yes y1, d1, Int.ediv_one]
    show outR (loopR (v__law_steps_f5 t) ([a], a) [2, 3]) _ = _
    rw [loopR, f5_yes y2, d2, Int.mul_ediv_cancel_left _ (by omega)]
    show outR (loopR (v__law_steps_f5 t) ([a, b], a * b) [3]) _ = _
    rw [loopR, f5_yes y3, d3, Int.mul_ediv_cancel_left _ (by omega)]; rfl

end My

namespace My
open PySem PySem.Spec PyProof.Rows L2 TL
def v_law_box1 (script : (List Int)) : Bx := (m__law_box (m__law_cell_at script (0 : Int)))
def v_law_table2 (script : (List Int)) : (List (List Int)) := (m__law_table (v_law_box1 script) (3 : Int)).1
def v_law_due3 (script : (List Int)) : (List Int) := (m__law_steps (v_law_table2 script))
def v_law_handed4 (script : (List Int)) : (List (List Int)) := (List.map (fun (row : (List Int)) => row) (v_law_table2 script))
def v_law_found5 (script : (List Int)) : (List Int) := (okv (m_steps_of (v_law_handed4 script)))
def v_law_f6 (script : (List Int)) : Unit → Int → Bool ⊕ Unit := (fun (zz : Unit) (turn : Int) => (if ((!(m__law_row_like (v_law_found5 script))) || ((!eqB (v_law_found5 script) (v_law_due3 script)) || (!eqB (v_law_handed4 script) (v_law_table2 script)))) = true then (Sum.inl false) else (Sum.inr ())))
def v_law_told7 (script : (List Int)) : Int := (okv (m_rank (v_law_handed4 script)))
def v_law_some8 (script : (List Int)) : (List Int) := [(2 : Int), (3 : Int), (5 : Int), (7 : Int), (97 : Int), (4 : Int), (9 : Int), (1 : Int), (0 : Int), (-(1 : Int)), (101 : Int), (100 : Int), ((2 : Int) - ((2 : Int) * (m__law_take (m__law_table (v_law_box1 script) (3 : Int)).2 (50 : Int)).1)), (91 : Int)]
def v_law_prime9 (script : (List Int)) : Int := (getA (v_law_some8 script) (m__law_take (m__law_take (m__law_table (v_law_box1 script) (3 : Int)).2 (50 : Int)).2 (14 : Int)).1)
def v_law_prime10 (script : (List Int)) : Int := ((getA [(-(3 : Int)), (101 : Int)] (m__law_take (m__law_take (m__law_take (m__law_take (m__law_table (v_law_box1 script) (3 : Int)).2 (50 : Int)).2 (14 : Int)).2 (9 : Int)).2 (2 : Int)).1) * ((1 : Int) + (m__law_take (m__law_take (m__law_take (m__law_take (m__law_take (m__law_table (v_law_box1 script) (3 : Int)).2 (50 : Int)).2 (14 : Int)).2 (9 : Int)).2 (2 : Int)).2 ((10 : Int) ^ ((9 : Int)).toNat)).1))
def v_law_j11 (script : (List Int)) : (Int × Bx) := (if (decide ((m__law_take (m__law_take (m__law_take (m__law_table (v_law_box1 script) (3 : Int)).2 (50 : Int)).2 (14 : Int)).2 (9 : Int)).1 = (1 : Int))) = true then ((v_law_prime10 script), (m__law_take (m__law_take (m__law_take (m__law_take (m__law_take (m__law_table (v_law_box1 script) (3 : Int)).2 (50 : Int)).2 (14 : Int)).2 (9 : Int)).2 (2 : Int)).2 ((10 : Int) ^ ((9 : Int)).toNat)).2) else ((v_law_prime9 script), (m__law_take (m__law_take (m__law_take (m__law_table (v_law_box1 script) (3 : Int)).2 (50 : Int)).2 (14 : Int)).2 (9 : Int)).2))
def v_law_good12 (script : (List Int)) : Bool := ((decide ((1 : Int) < (v_law_j11 script).1) && decide ((v_law_j11 script).1 < (101 : Int))) && (decide ((((List.map (fun (one : Int) => one) (List.filter (fun (one : Int) => (decide (((v_law_j11 script).1 % one) = (0 : Int)))) (rng2 (2 : Int) (if (101 : Int) < (v_law_j11 script).1 then (101 : Int) else (v_law_j11 script).1))))).length : Int) = (0 : Int))))
def m_law (script : (List Int)) : Bool :=
  (outR (loopR (v_law_f6 script) () (rng (2 : Int))) (fun zr1 => (if ((!(m__law_whole (v_law_told7 script))) || ((!decide ((v_law_told7 script) = (((v_law_due3 script)).length : Int))))) = true then false else (caseE (m__law_asked (v_law_handed4 script) (v_law_j11 script).1) (fun v => (if (!(v_law_good12 script)) = true then default else ((m__law_whole v) && ((decide (v = (((List.map (fun (one : Int) => one) (List.filter (fun (one : Int) => ((!decide ((one % (v_law_j11 script).1) = (0 : Int))))) (v_law_due3 script)))).length : Int))) && (eqB (v_law_handed4 script) (v_law_table2 script)))))) (fun ev => (if (!(v_law_good12 script)) = true then (decide (ev.word = (PySem.Str.ofString "number"))) else default))))))
theorem tb22 (script : List Int) : TbOk22 (v_law_table2 script) := table22 _
theorem handed22 (script : List Int) : v_law_handed4 script = v_law_table2 script := by unfold v_law_handed4; rw [List.map_id']
theorem ok_table22 {t : List (List Int)} (h : TbOk22 t) : m_is_table t = true := by
  obtain ⟨w0, w1, w2⟩ := wide22 h
  have hl := h.1
  unfold m_is_table
  rw [width_wide, if_neg, all_id_map]
  · intro x hx
    rw [decide_eq_true_eq]; exact w2 x hx
  · rw [Bool.not_eq_true, Bool.or_eq_false_iff, decide_eq_false_iff_not, decide_eq_false_iff_not]
    omega
theorem must22 {t : List (List Int)} (h : TbOk22 t) : m_must_be_table t = .ok () := by
  unfold m_must_be_table; rw [ok_table22 h]; rfl
theorem steps22 {t : List (List Int)} (h : TbOk22 t) : m_steps_of t = .ok (m_paper (ss0 t.length (m__law_wide t) t m_even)).2 := by
  unfold m_steps_of m_stepped
  rw [must22 h, width_wide]
  rfl
theorem pre22 (script : List Int) : m_is_table (v_law_handed4 script) = true → PapOk (v_law_handed4 script).length (m_width (v_law_handed4 script)) (v_law_handed4 script) := fun _ => by
  rw [handed22, width_wide]; exact pap22 (tb22 script)
theorem okst22 (script : List Int) : isOk (m_steps_of (v_law_handed4 script)) = true := by
  rw [handed22, steps22 (tb22 script)]; rfl
theorem okrk22 (script : List Int) : isOk (m_rank (v_law_handed4 script)) = true := by
  unfold m_rank
  rw [handed22, steps22 (tb22 script)]; rfl
theorem found22 (script : List Int) : v_law_found5 script = m__law_steps (v_law_table2 script) := by
  unfold v_law_found5
  rw [handed22, steps22 (tb22 script), steps_is (tb22 script)]; rfl
theorem len22 (script : List Int) : (v_law_found5 script).length ≤ 3 := by
  rw [found22, steps_is (tb22 script)]
  obtain ⟨k, e1, e2, e3, _⟩ := D22 (tb22 script)
  have := (tb22 script).1
  rw [e1]; omega
theorem asked22 (script : List Int) (p : Int) : m__law_asked (v_law_handed4 script) p = if m_is_prime p = true then .ok (((m__law_steps (v_law_table2 script)).filter fun step => !decide (step % p = 0)).length : Int) else .error .number := by
  unfold m__law_asked m_rank_by
  rw [handed22, must22 (tb22 script), steps22 (tb22 script)]
  unfold m_must_be_prime
  cases m_is_prime p with
  | true =>
    rw [if_pos rfl, steps_is (tb22 script)]
    show (Except.ok _ : Except Er Int) = .ok _
    rw [List.map_id']
    rfl
  | false => rfl
theorem good22 (script : List Int) : v_law_good12 script = m_is_prime (v_law_j11 script).1 := by
  unfold v_law_good12
  generalize (v_law_j11 script).1 = p
  unfold m_is_prime
  by_cases c : 1 < p ∧ p < 101
  · have e1 : (!(decide ((2 : Int) ≤ p) && decide (p ≤ (100 : Int)))) = false := by
      rw [decide_eq_true (show (2 : Int) ≤ p by omega), decide_eq_true (show p ≤ 100 by omega)]; rfl
    have e2 : (if (101 : Int) < p then (101 : Int) else p) = p := if_neg (by omega)
    rw [e1, e2, if_neg Bool.false_ne_true, decide_eq_true c.1, decide_eq_true c.2, List.map_id', Bool.eq_iff_iff, all_id_map]
    show (true && true && decide _) = true ↔ _
    rw [Bool.true_and, Bool.true_and, decide_eq_true_eq]
    constructor
    · intro h x hx
      have h0 : (List.filter (fun (one : Int) => decide (p % one = 0)) (rng2 2 p)) = [] := List.eq_nil_of_length_eq_zero (by omega)
      have := List.filter_eq_nil_iff.mp h0 x hx
      rw [decide_eq_true_eq] at this
      rw [decide_eq_false this]; rfl
    · intro h
      rw [List.filter_eq_nil_iff.mpr fun x hx => by
        have := h x hx
        rw [Bool.not_eq_true', decide_eq_false_iff_not] at this
        rw [decide_eq_true_eq]; exact this]
      rfl
  · have e1 : (!(decide ((2 : Int) ≤ p) && decide (p ≤ (100 : Int)))) = true := by
      by_cases c1 : 2 ≤ p
      · rw [decide_eq_false (show ¬ p ≤ 100 by omega), Bool.and_false]; rfl
      · rw [decide_eq_false c1]; rfl
    rw [e1, if_pos rfl]
    by_cases c1 : 1 < p
    · rw [decide_eq_false (show ¬ p < 101 by omega), Bool.and_false, Bool.false_and]
    · rw [decide_eq_false c1, Bool.false_and, Bool.false_and]
theorem dead22a (script : List Int) {v : Int} (h : m__law_asked (v_law_handed4 script) (v_law_j11 script).1 = .ok v) (c : (!(v_law_good12 script)) = true) : False := by
  rw [asked22, ← good22] at h
  rw [Bool.not_eq_true'] at c
  rw [c, if_neg Bool.false_ne_true] at h
  cases h
theorem dead22b (script : List Int) {ev : Er} (h : m__law_asked (v_law_handed4 script) (v_law_j11 script).1 = .error ev) (c : (!(v_law_good12 script)) = false) : False := by
  rw [asked22, ← good22] at h
  rw [Bool.not_eq_false'] at c
  rw [c, if_pos rfl] at h
  cases h
theorem prime_pos22 (script : List Int) (c : (!(v_law_good12 script)) = false) : 0 < (v_law_j11 script).1 := by
  rw [Bool.not_eq_false'] at c
  unfold v_law_good12 at c
  rw [Bool.and_eq_true, Bool.and_eq_true, decide_eq_true_eq] at c
  omega
theorem take22 (b : Bx) {n : Int} (h : 0 < n) : 0 ≤ (m__law_take b n).1 ∧ (m__law_take b n).1 < n := by
  rcases take_or b n with k | k
  · omega
  · exact k
theorem two22 {a b k : Int} (h : 0 ≤ k ∧ k < 2) : getA [a, b] k = a ∨ getA [a, b] k = b := by
  have : k = 0 ∨ k = 1 := by omega
  rcases this with e | e <;> subst e
  · exact .inl rfl
  · exact .inr rfl

def sp_law (K : PySem.W.Frag) : FS ((List Int)) := { args := fun x => [.dat (rScr K) x], res := fun x => .dat TL.rB (m_law x) }
abbrev n_law : List Str := ["script", "box", "table", "due", "handed", "row", "turn", "found", "told", "some", "prime", "good", "one"]
theorem sc_law : FnScope n_law ["script"] (defScope s_law) := ⟨rfl, rfl, rfl, by decide +kernel, rfl, by decide +kernel, by decide +kernel⟩
section
variable {P : Program} {w : World} {K : PySem.W.Frag} {mg : Str → Option Value} {base : Heap}
theorem fn_law (T : Txs K mg) {f : Addr} {fd : FuncData} (Fn : Fun K "law" "law" s_law f fd) : FnOk P w K mg base CX0 10 f fd ["script"] (sp_law K).sp := by
  refine fs_ok Fn sc_law (fun _ => rfl) (fun _ => rfl) fun cdv_ A_ outer_ s_ H_ E_ script C_ D_ hr hret hnx => ?_
  have hu65 := hu65_of hr; have hu64 := hu64_of hr; have hu1 := hu1_of hr
  refine gs_G (G' := [.dat (rScr K) script, .any, .any, .any, .any, .any, .any, .any, .any, .any, .any, .any, .any]) rfl ?_
  refine gs_set (i := 1) sc_law.nd rfl (Or.inl rfl) (e := .own false TL.rI [((v_law_box1 script)).a, ((v_law_box1 script)).f]) (x_call (ok__law_box T) (hr.mono (by decide)) (m__law_cell_at script (0 : Int)) (a_cons (x_call (ok__law_cell_at T) (hr.mono (by decide)) ⟨(script, (0 : Int)), (by first | omega | decide)⟩ (a_cons (x_var 0 rfl) (a_cons x_int a_nil)) (.cons (.cons .nil)) rfl) a_nil) (.cons .nil) rfl) ?_
  refine gs_set (i := 2) sc_law.nd rfl (Or.inl rfl) (e := .dat (rL (rL TL.rI)) (v_law_table2 script)) (x_is (x_lst (x_callOE (ok__law_table T) (hr.mono (by decide)) ⟨((v_law_box1 script), (3 : Int)), (by show (0 : Int) ≤ 3 ∧ (3 : Int) ≤ 10; decide)⟩ (a_slot 1 rfl rfl (a_cons x_int a_nil)) rfl rfl rfl (.cons .nil) rfl rfl)) rfl) ?_
  refine gs_set (i := 3) sc_law.nd rfl (Or.inl rfl) (e := .dat (rL TL.rI) (v_law_due3 script)) (x_is (x_lst (x_call (ok__law_steps T) (hr.mono (by decide)) ⟨(v_law_table2 script), (by exact tb22 script)⟩ (a_cons (x_var 2 rfl) a_nil) (.cons .nil) rfl)) rfl) ?_
  refine gs_G (G' := [.dat (rScr K) script, .own false TL.rI [((m__law_table (v_law_box1 script) (3 : Int)).2).a, ((m__law_table (v_law_box1 script) (3 : Int)).2).f], .dat (rL (rL TL.rI)) (v_law_table2 script), .dat (rL TL.rI) (v_law_due3 script), .any, .any, .any, .any, .any, .any, .any, .any, .any]) rfl ?_
  refine gs_lc0 (s := (rL TL.rI)) (f := (fun (row : (List Int)) => row)) (i := 4) 5 (k_list (x_var 2 rfl)) (noOwn_cons rfl rfl noOwn_nil) (fun C1 row hv _ _ _ _ _ => (x_lst (x_listL T.b_list (rl_dat (x_var 5 rfl))))) (en' := .dat (rL (rL TL.rI)) (v_law_handed4 script)) (fun h => (Ev.known h).is rfl) ?_ sc_law.nd (blkOk_by (N := n_law) (sc := defScope s_law) (by decide +kernel)) (fun _ _ _ _ _ => pg_name sc_law.nd rfl (Or.inl rfl)) rfl rfl (sw_true rfl rfl rfl (by decide +kernel))
  refine gs_forR1 (S := Unit) 6 (k_rng1 (n := (2 : Int)) T.b_range (a_cons x_int a_nil) (by first | omega | (show _ ≤ 16777216; omega) | (show _ < 16777216; omega) | (simp only [Bool.and_eq_true, Bool.not_eq_true', Bool.not_eq_false', Bool.or_eq_false_iff, Bool.and_eq_false_iff, decide_eq_true_eq, decide_eq_false_iff_not] at *; omega) | decide +kernel | (show (0 : Int) < (10 : Int) ^ ((9 : Int)).toNat ∧ (10 : Int) ^ ((9 : Int)).toNat < 1000000000000000000000; decide))) (fun (z : Unit) => [.dat (rScr K) script, .own false TL.rI [((m__law_table (v_law_box1 script) (3 : Int)).2).a, ((m__law_table (v_law_box1 script) (3 : Int)).2).f], .dat (rL (rL TL.rI)) (v_law_table2 script), .dat (rL TL.rI) (v_law_due3 script), .dat (rL (rL TL.rI)) (v_law_handed4 script), .any, .any, .any, .any, .any, .any, .any, .any]) () (v_law_f6 script) (.keep (.keep (.keep (.keep (.keep (.drop (.drop (.drop (.drop (.drop (.drop (.drop (.drop .nil))))))))))))) (fun B1 ii turn zz hi1 hz1 => ?_) (fun zr1 hzE1 => ?_) sc_law.nd rfl (Or.inl rfl)
  · have _ := hz1
    refine gs_G (G' := [.dat (rScr K) script, .own false TL.rI [((m__law_table (v_law_box1 script) (3 : Int)).2).a, ((m__law_table (v_law_box1 script) (3 : Int)).2).f], .dat (rL (rL TL.rI)) (v_law_table2 script), .dat (rL TL.rI) (v_law_due3 script), .dat (rL (rL TL.rI)) (v_law_handed4 script), .any, .dat TL.rI turn, .any, .any, .any, .any, .any, .any]) rfl ?_
    have hv := List.mem_of_getElem? hi1
    have hv' := mem_rng hv
    refine gs_G (G' := [.dat (rScr K) script, .own false TL.rI [((m__law_table (v_law_box1 script) (3 : Int)).2).a, ((m__law_table (v_law_box1 script) (3 : Int)).2).f], .dat (rL (rL TL.rI)) (v_law_table2 script), .dat (rL TL.rI) (v_law_due3 script), .dat (rL (rL TL.rI)) (v_law_handed4 script), .any, .dat TL.rI turn, .any, .any, .any, .any, .any, .any]) rfl ?_
    refine gs_told (i := 7) sc_law.nd rfl (Or.inl rfl) (fun Bx_ => (.dat (.own (.dat (.dat (.dat (.any (.dat (.any (.any (.any (.any (.any (.any .nil)))))))))))))) (fun B_ H_ => (Ev.isT (x_callX (ok_steps_of T) (hr.mono (by decide)) ⟨(v_law_handed4 script), (by exact pre22 script)⟩ (a_cons (x_var 4 rfl) a_nil) (.cons .nil) (okX_res _ (okv_of (x := m_steps_of (v_law_handed4 script)) (by exact okst22 script))) (okX_bad _ (okv_of (x := m_steps_of (v_law_handed4 script)) (by exact okst22 script)))) rfl)) (fun Bx1 P1 hb1 hf1 => ?_)
    refine gs_G (G' := [.dat (rAge Bx1 (rScr K)) script, .own false TL.rI [((m__law_table (v_law_box1 script) (3 : Int)).2).a, ((m__law_table (v_law_box1 script) (3 : Int)).2).f], .dat (rAge Bx1 (rL (rL TL.rI))) (v_law_table2 script), .dat (rAge Bx1 (rL TL.rI)) (v_law_due3 script), .dat (rAge Bx1 (rL (rL TL.rI))) (v_law_handed4 script), .any, .dat (rAge Bx1 TL.rI) turn, .dat (rTold P1 (fLs TL.rI)) (v_law_found5 script), .any, .any, .any, .any, .any]) rfl ?_
    refine gs_if (t_w (w_or (t_not (t_v (x_call (ok__law_row_like T) (hr.mono (by decide)) (v_law_found5 script) (a_cons (x_toldD fits_Ls (x_var 7 rfl)) a_nil) (.cons .nil) rfl))) (fun hb => (w_or (t_neD hu64 (x_toldD fits_Ls (x_var 7 rfl)) (x_unAge (x_var 3 rfl))) (fun hb => (w_or1 (t_neD hu64 (x_unAge (x_var 4 rfl)) (x_unAge (x_var 2 rfl))))))))) (fun h2 => ?_) (fun h2 => ?_)
    · have _ := h2
      exact gs_ret x_bl (hret _ _ ⟨congrArg (fun z => (Ent.dat TL.rB z : Ent)) (show false = m_law script from Eq.symm ((outR_ret hz1 hi1 ((ifp h2))))), rfl, posted_any⟩)
    refine gs_nil ?_
    refine gs_lsApp 7 hf1 x_int rfl rfl (.dat firm_A (.own firm_T (.dat firm_A (.dat firm_A (.dat firm_A (.any (.dat firm_A (.any (.any (.any (.any (.any (.any .nil))))))))))))) (by have h9 := len22 script; show _ < 16777216; omega) ?_
    refine gs_G (G' := [.dat (rAge Bx1 (rScr K)) script, .own false TL.rI [((m__law_table (v_law_box1 script) (3 : Int)).2).a, ((m__law_table (v_law_box1 script) (3 : Int)).2).f], .dat (rAge Bx1 (rL (rL TL.rI))) (v_law_table2 script), .dat (rAge Bx1 (rL TL.rI)) (v_law_due3 script), .dat (rAge Bx1 (rL (rL TL.rI))) (v_law_handed4 script), .any, .dat (rAge Bx1 TL.rI) turn, .any, .any, .any, .any, .any, .any]) rfl ?_
    refine gs_G (G' := [.dat (rAge Bx1 (rScr K)) script, .own false TL.rI [((m__law_table (v_law_box1 script) (3 : Int)).2).a, ((m__law_table (v_law_box1 script) (3 : Int)).2).f], .dat (rAge Bx1 (rL (rL TL.rI))) (v_law_table2 script), .dat (rAge Bx1 (rL TL.rI)) (v_law_due3 script), .dat (rAge Bx1 (rL (rL TL.rI))) (v_law_handed4 script), .any, .dat (rAge Bx1 TL.rI) turn, .any, .any, .any, .any, .any, .any]) rfl ?_
    refine gs_unage hb1 (.age (.keep (.age (.age (.age (.keep (.age (.keep (.keep (.keep (.keep (.keep (.keep .nil))))))))))))) ?_
    exact gs_endR (Gs := fun (z : Unit) => [.dat (rScr K) script, .own false TL.rI [((m__law_table (v_law_box1 script) (3 : Int)).2).a, ((m__law_table (v_law_box1 script) (3 : Int)).2).f], .dat (rL (rL TL.rI)) (v_law_table2 script), .dat (rL TL.rI) (v_law_due3 script), .dat (rL (rL TL.rI)) (v_law_handed4 script), .any, .any, .any, .any, .any, .any, .any, .any]) ((ifn h2)) (.keep (.keep (.keep (.keep (.keep (.drop (.drop (.drop (.drop (.drop (.drop (.drop (.drop .nil)))))))))))))
  refine gs_G (G' := [.dat (rScr K) script, .own false TL.rI [((m__law_table (v_law_box1 script) (3 : Int)).2).a, ((m__law_table (v_law_box1 script) (3 : Int)).2).f], .dat (rL (rL TL.rI)) (v_law_table2 script), .dat (rL TL.rI) (v_law_due3 script), .dat (rL (rL TL.rI)) (v_law_handed4 script), .any, .any, .any, .any, .any, .any, .any, .any]) rfl ?_
  refine gs_set (i := 8) sc_law.nd rfl (Or.inl rfl) (e := .dat TL.rI (v_law_told7 script)) (x_is (x_callX (ok_rank T) (hr.mono (by decide)) ⟨(v_law_handed4 script), (by exact pre22 script)⟩ (a_cons (x_var 4 rfl) a_nil) (.cons .nil) (okX_res _ (okv_of (x := m_rank (v_law_handed4 script)) (by exact okrk22 script))) (okX_bad _ (okv_of (x := m_rank (v_law_handed4 script)) (by exact okrk22 script)))) rfl) ?_
  refine gs_if (t_w (w_or (t_not (t_v (x_call (ok__law_whole T) (hr.mono (by decide)) (v_law_told7 script) (a_cons (x_var 8 rfl) a_nil) (.cons .nil) rfl))) (fun hb => (w_or1 (t_ne (x_var 8 rfl) (x_len T.b_len (rl_dat (x_var 3 rfl)))))))) (fun h3 => ?_) (fun h3 => ?_)
  · have _ := h3
    exact gs_ret x_bl (hret _ _ ⟨congrArg (fun z => (Ent.dat TL.rB z : Ent)) (show false = m_law script from Eq.symm ((outR_end hzE1).trans ((ifp h3)))), rfl, posted_any⟩)
  refine gs_nil ?_
  have tk1 := take_or (m__law_table (v_law_box1 script) (3 : Int)).2 (50 : Int)
  refine gs_set (i := 9) sc_law.nd rfl (Or.inl rfl) (e := .dat (rL TL.rI) (v_law_some8 script)) (x_is (x_lst (x_list (a_cons x_int (a_cons x_int (a_cons x_int (a_cons x_int (a_cons x_int (a_cons x_int (a_cons x_int (a_cons x_int (a_cons x_int (a_cons (x_neg x_int) (a_cons x_int (a_cons x_int (a_cons (x_sub x_int (x_mul x_int (x_callO (ok__law_take T) (hr.mono (by decide)) ⟨((m__law_table (v_law_box1 script) (3 : Int)).2, (50 : Int)), (by first | omega | (show _ ≤ 16777216; omega) | (show _ < 16777216; omega) | (simp only [Bool.and_eq_true, Bool.not_eq_true', Bool.not_eq_false', Bool.or_eq_false_iff, Bool.and_eq_false_iff, decide_eq_true_eq, decide_eq_false_iff_not] at *; omega) | decide +kernel | (show (0 : Int) < (10 : Int) ^ ((9 : Int)).toNat ∧ (10 : Int) ^ ((9 : Int)).toNat < 1000000000000000000000; decide))⟩ (a_slot 1 rfl rfl (a_cons x_int a_nil)) rfl rfl rfl (.cons .nil) rfl) (by have h9 := take22 (m__law_table (v_law_box1 script) (3 : Int)).2 (n := 50) (by decide); exact .inl ⟨by omega, by omega⟩))) (a_cons x_int a_nil)))))))))))))) (.cons (.cons (.cons (.cons (.cons (.cons (.cons (.cons (.cons (.cons (.cons (.cons (.cons (.cons .nil)))))))))))))))) rfl) ?_
  have tk2 := take_or (m__law_take (m__law_table (v_law_box1 script) (3 : Int)).2 (50 : Int)).2 (14 : Int)
  refine gs_set (i := 10) sc_law.nd rfl (Or.inr rfl) (e := .dat TL.rI (v_law_prime9 script)) (x_is (x_ixD (x_var 9 rfl) (x_callO (ok__law_take T) (hr.mono (by decide)) ⟨((m__law_take (m__law_table (v_law_box1 script) (3 : Int)).2 (50 : Int)).2, (14 : Int)), (by first | omega | (show _ ≤ 16777216; omega) | (show _ < 16777216; omega) | (simp only [Bool.and_eq_true, Bool.not_eq_true', Bool.not_eq_false', Bool.or_eq_false_iff, Bool.and_eq_false_iff, decide_eq_true_eq, decide_eq_false_iff_not] at *; omega) | decide +kernel | (show (0 : Int) < (10 : Int) ^ ((9 : Int)).toNat ∧ (10 : Int) ^ ((9 : Int)).toNat < 1000000000000000000000; decide))⟩ (a_slot 1 rfl rfl (a_cons x_int a_nil)) rfl rfl rfl (.cons .nil) rfl) (getA_at (l := (v_law_some8 script)) (i := (m__law_take (m__law_take (m__law_table (v_law_box1 script) (3 : Int)).2 (50 : Int)).2 (14 : Int)).1) (by first | omega | (show _ ≤ 16777216; omega) | (show _ < 16777216; omega) | (simp only [Bool.and_eq_true, Bool.not_eq_true', Bool.not_eq_false', Bool.or_eq_false_iff, Bool.and_eq_false_iff, decide_eq_true_eq, decide_eq_false_iff_not] at *; omega) | decide +kernel | (show (0 : Int) < (10 : Int) ^ ((9 : Int)).toNat ∧ (10 : Int) ^ ((9 : Int)).toNat < 1000000000000000000000; decide)) (by show _ < ((14 : Nat) : Int); exact (take22 _ (n := 14) (by decide)).2))) rfl) ?_
  refine gs_G (G' := [.dat (rScr K) script, .own false TL.rI [((m__law_take (m__law_take (m__law_table (v_law_box1 script) (3 : Int)).2 (50 : Int)).2 (14 : Int)).2).a, ((m__law_take (m__law_take (m__law_table (v_law_box1 script) (3 : Int)).2 (50 : Int)).2 (14 : Int)).2).f], .dat (rL (rL TL.rI)) (v_law_table2 script), .dat (rL TL.rI) (v_law_due3 script), .dat (rL (rL TL.rI)) (v_law_handed4 script), .any, .any, .any, .dat TL.rI (v_law_told7 script), .dat (rL TL.rI) (v_law_some8 script), .dat TL.rI (v_law_prime9 script), .any, .any]) rfl ?_
  have tk3 := take_or (m__law_take (m__law_take (m__law_table (v_law_box1 script) (3 : Int)).2 (50 : Int)).2 (14 : Int)).2 (9 : Int)
  refine gs_ifJ ((fun (z : (Int × Bx)) => [.dat (rScr K) script, .own false TL.rI [(z.2).a, (z.2).f], .dat (rL (rL TL.rI)) (v_law_table2 script), .dat (rL TL.rI) (v_law_due3 script), .dat (rL (rL TL.rI)) (v_law_handed4 script), .any, .any, .any, .dat TL.rI (v_law_told7 script), .dat (rL TL.rI) (v_law_some8 script), .dat TL.rI z.1, .any, .any]) (v_law_j11 script)) (t_eq (x_callO (ok__law_take T) (hr.mono (by decide)) ⟨((m__law_take (m__law_take (m__law_table (v_law_box1 script) (3 : Int)).2 (50 : Int)).2 (14 : Int)).2, (9 : Int)), (by first | omega | (show _ ≤ 16777216; omega) | (show _ < 16777216; omega) | (simp only [Bool.and_eq_true, Bool.not_eq_true', Bool.not_eq_false', Bool.or_eq_false_iff, Bool.and_eq_false_iff, decide_eq_true_eq, decide_eq_false_iff_not] at *; omega) | decide +kernel | (show (0 : Int) < (10 : Int) ^ ((9 : Int)).toNat ∧ (10 : Int) ^ ((9 : Int)).toNat < 1000000000000000000000; decide))⟩ (a_slot 1 rfl rfl (a_cons x_int a_nil)) rfl rfl rfl (.cons .nil) rfl) x_int) (fun h4 => ?_) (fun h4 => ?_) ?_
  · have tk4 := take_or (m__law_take (m__law_take (m__law_take (m__law_table (v_law_box1 script) (3 : Int)).2 (50 : Int)).2 (14 : Int)).2 (9 : Int)).2 (2 : Int)
    have tk5 := take_or (m__law_take (m__law_take (m__law_take (m__law_take (m__law_table (v_law_box1 script) (3 : Int)).2 (50 : Int)).2 (14 : Int)).2 (9 : Int)).2 (2 : Int)).2 ((10 : Int) ^ ((9 : Int)).toNat)
    refine gs_set (i := 10) sc_law.nd rfl (Or.inr rfl) (e := .dat TL.rI (v_law_prime10 script)) (x_is (x_mul (x_ixD (x_lst (x_list (a_cons (x_neg x_int) (a_cons x_int a_nil)) (.cons (.cons .nil)))) (x_callO (ok__law_take T) (hr.mono (by decide)) ⟨((m__law_take (m__law_take (m__law_take (m__law_table (v_law_box1 script) (3 : Int)).2 (50 : Int)).2 (14 : Int)).2 (9 : Int)).2, (2 : Int)), (by first | omega | (show _ ≤ 16777216; omega) | (show _ < 16777216; omega) | (simp only [Bool.and_eq_true, Bool.not_eq_true', Bool.not_eq_false', Bool.or_eq_false_iff, Bool.and_eq_false_iff, decide_eq_true_eq, decide_eq_false_iff_not] at *; omega) | decide +kernel | (show (0 : Int) < (10 : Int) ^ ((9 : Int)).toNat ∧ (10 : Int) ^ ((9 : Int)).toNat < 1000000000000000000000; decide))⟩ (a_slot 1 rfl rfl (a_cons x_int a_nil)) rfl rfl rfl (.cons .nil) rfl) (getA_at (l := [(-(3 : Int)), (101 : Int)]) (i := (m__law_take (m__law_take (m__law_take (m__law_take (m__law_table (v_law_box1 script) (3 : Int)).2 (50 : Int)).2 (14 : Int)).2 (9 : Int)).2 (2 : Int)).1) (by first | omega | (show _ ≤ 16777216; omega) | (show _ < 16777216; omega) | (simp only [Bool.and_eq_true, Bool.not_eq_true', Bool.not_eq_false', Bool.or_eq_false_iff, Bool.and_eq_false_iff, decide_eq_true_eq, decide_eq_false_iff_not] at *; omega) | decide +kernel | (show (0 : Int) < (10 : Int) ^ ((9 : Int)).toNat ∧ (10 : Int) ^ ((9 : Int)).toNat < 1000000000000000000000; decide)) (by show _ < ((2 : Nat) : Int); exact (take22 _ (n := 2) (by decide)).2))) (x_add x_int (x_callO (ok__law_take T) (hr.mono (by decide)) ⟨((m__law_take (m__law_take (m__law_take (m__law_take (m__law_table (v_law_box1 script) (3 : Int)).2 (50 : Int)).2 (14 : Int)).2 (9 : Int)).2 (2 : Int)).2, ((10 : Int) ^ ((9 : Int)).toNat)), (by first | omega | (show _ ≤ 16777216; omega) | (show _ < 16777216; omega) | (simp only [Bool.and_eq_true, Bool.not_eq_true', Bool.not_eq_false', Bool.or_eq_false_iff, Bool.and_eq_false_iff, decide_eq_true_eq, decide_eq_false_iff_not] at *; omega) | decide +kernel | (show (0 : Int) < (10 : Int) ^ ((9 : Int)).toNat ∧ (10 : Int) ^ ((9 : Int)).toNat < 1000000000000000000000; decide))⟩ (a_slot 1 rfl rfl (a_cons (x_pow x_int x_int (by exact ⟨by decide, by decide, by decide⟩)) a_nil)) rfl rfl rfl (.cons .nil) rfl)) (by have h9 := two22 (a := -3) (b := 101) (take22 (m__law_take (m__law_take (m__law_take (m__law_table (v_law_box1 script) (3 : Int)).2 (50 : Int)).2 (14 : Int)).2 (9 : Int)).2 (n := 2) (by decide)); rcases h9 with h9 | h9 <;> rw [h9] <;> exact .inl ⟨by decide, by decide⟩)) rfl) ?_
    exact gs_endJ (Gs := fun (z : (Int × Bx)) => [.dat (rScr K) script, .own false TL.rI [(z.2).a, (z.2).f], .dat (rL (rL TL.rI)) (v_law_table2 script), .dat (rL TL.rI) (v_law_due3 script), .dat (rL (rL TL.rI)) (v_law_handed4 script), .any, .any, .any, .dat TL.rI (v_law_told7 script), .dat (rL TL.rI) (v_law_some8 script), .dat TL.rI z.1, .any, .any]) (ifp h4) (.keep (.keep (.keep (.keep (.keep (.drop (.drop (.drop (.keep (.keep (.keep (.drop (.drop .nil)))))))))))))
  · exact gs_endJ (Gs := fun (z : (Int × Bx)) => [.dat (rScr K) script, .own false TL.rI [(z.2).a, (z.2).f], .dat (rL (rL TL.rI)) (v_law_table2 script), .dat (rL TL.rI) (v_law_due3 script), .dat (rL (rL TL.rI)) (v_law_handed4 script), .any, .any, .any, .dat TL.rI (v_law_told7 script), .dat (rL TL.rI) (v_law_some8 script), .dat TL.rI z.1, .any, .any]) (ifn h4) (.keep (.keep (.keep (.keep (.keep (.drop (.drop (.drop (.keep (.keep (.keep (.drop (.drop .nil)))))))))))))
  refine gs_G (G' := [.dat (rScr K) script, .own false TL.rI [((v_law_j11 script).2).a, ((v_law_j11 script).2).f], .dat (rL (rL TL.rI)) (v_law_table2 script), .dat (rL TL.rI) (v_law_due3 script), .dat (rL (rL TL.rI)) (v_law_handed4 script), .any, .any, .any, .dat TL.rI (v_law_told7 script), .dat (rL TL.rI) (v_law_some8 script), .dat TL.rI (v_law_j11 script).1, .any, .any]) rfl ?_
  refine gs_set (i := 11) sc_law.nd rfl (Or.inl rfl) (e := .dat TL.rB (v_law_good12 script)) (x_is (x_and (x_ltlt x_int (x_var 10 rfl) x_int) (fun _ => (x_one (x_eq (x_len T.b_len (rl_dat (x_lst (x_lc1 (s := TL.rI) (f := (fun (one : Int) => one)) (q := fun (one : Int) => (decide (((v_law_j11 script).1 % one) = (0 : Int)))) 12 (k_rng2 (n := (2 : Int)) (m := (if (101 : Int) < (v_law_j11 script).1 then (101 : Int) else (v_law_j11 script).1)) T.b_range (a_cons x_int (a_cons (x_min2 T.b_min (x_var 10 rfl) x_int) a_nil)) (by first | omega | (show _ ≤ 16777216; omega) | (show _ < 16777216; omega) | (simp only [Bool.and_eq_true, Bool.not_eq_true', Bool.not_eq_false', Bool.or_eq_false_iff, Bool.and_eq_false_iff, decide_eq_true_eq, decide_eq_false_iff_not] at *; omega) | decide +kernel | (show (0 : Int) < (10 : Int) ^ ((9 : Int)).toNat ∧ (10 : Int) ^ ((9 : Int)).toNat < 1000000000000000000000; decide))) (noOwn_cons rfl rfl noOwn_nil) (fun C1 one hv _ _ _ _ _ => have hv' := mem_rng2 hv; (t_eq (x_mod (x_var 10 rfl) (x_var 12 rfl) (by first | omega | (show _ ≤ 16777216; omega) | (show _ < 16777216; omega) | (simp only [Bool.and_eq_true, Bool.not_eq_true', Bool.not_eq_false', Bool.or_eq_false_iff, Bool.and_eq_false_iff, decide_eq_true_eq, decide_eq_false_iff_not] at *; omega) | decide +kernel | (show (0 : Int) < (10 : Int) ^ ((9 : Int)).toNat ∧ (10 : Int) ^ ((9 : Int)).toNat < 1000000000000000000000; decide))) x_int)) (fun C1 one hv hq _ _ _ _ _ => have hv' := mem_rng2 hv; (x_var 12 rfl)) sc_law.nd (blkOk_by (N := n_law) (sc := defScope s_law) (by decide +kernel)) (fun _ _ _ _ _ => pg_name sc_law.nd rfl (Or.inl rfl)))))) x_int)))) rfl) ?_
  refine gs_setU (i := 8) (ok__law_asked T) (hr.mono (by decide)) ⟨((v_law_handed4 script), (v_law_j11 script).1), (by exact pre22 script)⟩ (a_cons (x_var 4 rfl) (a_cons (x_var 10 rfl) a_nil)) (.cons (.cons .nil)) sc_law.nd rfl (Or.inl rfl) (fun v hm5 => ?_) (fun ev hm5 => ?_)
  · have hm5 : (m__law_asked (v_law_handed4 script) (v_law_j11 script).1) = .ok v := hm5
    refine gs_G (G' := [.dat (rScr K) script, .own false TL.rI [((v_law_j11 script).2).a, ((v_law_j11 script).2).f], .dat (rL (rL TL.rI)) (v_law_table2 script), .dat (rL TL.rI) (v_law_due3 script), .dat (rL (rL TL.rI)) (v_law_handed4 script), .any, .any, .any, .dat TL.rI v, .dat (rL TL.rI) (v_law_some8 script), .dat TL.rI (v_law_j11 script).1, .dat TL.rB (v_law_good12 script), .any]) rfl ?_
    refine gs_if (t_not (t_v (x_var 11 rfl))) (fun h6 => ?_) (fun h6 => ?_)
    · have _ := h6
      exact False.elim (by exact dead22a script (by assumption) (by assumption))
    refine gs_nil ?_
    exact gs_ret (x_and (x_call (ok__law_whole T) (hr.mono (by decide)) (v) (a_cons (x_var 8 rfl) a_nil) (.cons .nil) rfl) (fun _ => (x_and (x_eq (x_var 8 rfl) (x_len T.b_len (rl_dat (x_lst (x_lc1 (s := TL.rI) (f := (fun (one : Int) => one)) (q := fun (one : Int) => ((!decide ((one % (v_law_j11 script).1) = (0 : Int))))) 12 (k_list (x_var 3 rfl)) (noOwn_cons rfl rfl noOwn_nil) (fun C1 one hv _ _ _ _ _ => (t_ne (x_mod (x_var 12 rfl) (x_var 10 rfl) (by exact prime_pos22 script (by assumption))) x_int)) (fun C1 one hv hq _ _ _ _ _ => (x_var 12 rfl)) sc_law.nd (blkOk_by (N := n_law) (sc := defScope s_law) (by decide +kernel)) (fun _ _ _ _ _ => pg_name sc_law.nd rfl (Or.inl rfl))))))) (fun _ => (x_one (x_eqD hu64 (x_var 4 rfl) (x_var 2 rfl))))))) (hret _ _ ⟨congrArg (fun z => (Ent.dat TL.rB z : Ent)) (show ((m__law_whole v) && ((decide (v = (((List.map (fun (one : Int) => one) (List.filter (fun (one : Int) => ((!decide ((one % (v_law_j11 script).1) = (0 : Int))))) (v_law_due3 script)))).length : Int))) && (eqB (v_law_handed4 script) (v_law_table2 script)))) = m_law script from Eq.symm ((outR_end hzE1).trans ((ifn h3).trans ((caseE_ok hm5).trans ((ifn h6)))))), rfl, posted_any⟩)
  have hm5 : (m__law_asked (v_law_handed4 script) (v_law_j11 script).1) = .error ev := hm5
  refine gs_G (G' := [.dat (rScr K) script, .own false TL.rI [((v_law_j11 script).2).a, ((v_law_j11 script).2).f], .dat (rL (rL TL.rI)) (v_law_table2 script), .dat (rL TL.rI) (v_law_due3 script), .dat (rL (rL TL.rI)) (v_law_handed4 script), .any, .any, .any, .dat TL.rS ev.word, .dat (rL TL.rI) (v_law_some8 script), .dat TL.rI (v_law_j11 script).1, .dat TL.rB (v_law_good12 script), .any]) rfl ?_
  refine gs_if (t_not (t_v (x_var 11 rfl))) (fun h7 => ?_) (fun h7 => ?_)
  · have _ := h7
    exact gs_ret (x_eqS (x_var 8 rfl) x_str) (hret _ _ ⟨congrArg (fun z => (Ent.dat TL.rB z : Ent)) (show (decide (ev.word = (PySem.Str.ofString "number"))) = m_law script from Eq.symm ((outR_end hzE1).trans ((ifn h3).trans ((caseE_er hm5).trans ((ifp h7)))))), rfl, posted_any⟩)
  refine gs_nil ?_
  exact False.elim (by exact dead22b script (by assumption) (by assumption))
end
end My

namespace My
open PySem PySem.Spec PyProof.Rows L2 TL
theorem like22 (l : List Int) : m__law_row_like l = true := by
  unfold m__law_row_like m__law_whole
  rw [Bool.true_and, all_id_map]
  exact fun _ _ => rfl
theorem eqB_self {α : Type} [DecidableEq α] (a : α) : eqB a a = true := by simp [eqB]
theorem law_true (script : List Int) : m_law script = true := by
  have t := tb22 script
  have l1 : loopR (v_law_f6 script) () (rng (2 : Int)) = .inr () := loopR_of_all fun k hk => by
    unfold v_law_f6
    rw [like22, found22, handed22, show v_law_due3 script = m__law_steps (v_law_table2 script) from rfl, eqB_self, eqB_self]
    rfl
  have told : v_law_told7 script = ((v_law_due3 script).length : Int) := by
    unfold v_law_told7 m_rank
    rw [handed22, steps22 t, show v_law_due3 script = m__law_steps (v_law_table2 script) from rfl, steps_is t]
    rfl
  unfold m_law
  rw [l1]
  show (if _ then _ else _) = true
  rw [told, decide_eq_true rfl]
  show caseE _ _ _ = true
  rw [asked22, ← good22]
  cases g : v_law_good12 script with
  | true =>
    rw [if_pos rfl, List.map_id', handed22, eqB_self, show v_law_due3 script = m__law_steps (v_law_table2 script) from rfl]
    unfold caseE
    dsimp only
    rw [decide_eq_true rfl]
    rfl
  | false =>
    rw [if_neg Bool.false_ne_true]
    unfold caseE
    dsimp only
    decide +kernel

theorem law_fits {K : PySem.W.Frag} {H : Hp} {a : Addr} {ns : List Int} (hl : ns.length ≤ 63) (hO : Only H) (hS : SqL K H a (ns.map V.int)) : (sp_law K).sp [.ref a] H (fun v _ => v = .bl true) (fun _ _ _ => False) := by
  refine ⟨ns, H, [], ⟨Grow.refl (fun _ _ h => .inl h) (fun _ h => absurd h List.not_mem_nil) (fun b o h => ?_), fun b o h => (by cases h), rfl, fun i e ov hi hs => ?_, fun i j e e' p _ hi hj m => ?_⟩, (fun p hp => absurd hp List.not_mem_nil), ?_⟩
  · have h : H b = some o := h
    rcases hO b with h2 | ⟨o2, xs, h2⟩
    · rw [h2] at h; cases h
    · rw [h2] at h; cases h; exact trivial
  · cases i with
    | zero => cases hi; cases hs; exact ⟨_, rfl, _, rfl, hS⟩
    | succ i => cases hi
  · cases i with
    | zero => cases hi; cases m
    | succ i => cases hi
  · show ∀ v B' H', Grow [] [] H H B' H' → EntOk (C00 H H []) B' H' (.dat TL.rB (m_law ns)) (some v) → (∀ p ∈ ([] : List Addr), _) → v = .bl true
    intro v B' H' _ e _
    obtain ⟨w, e1, e2⟩ := e
    cases e1
    have e3 : v = .bl (m_law ns) := e2
    rw [e3, law_true]
theorem all_mk {l : PySem.W.OpenLaw} {w : World} {K : PySem.W.Frag} {h : Heap} {mg : Str → Option Value} {fa : Addr} (X : K.In h) (G : h.Ns mainGlobals mg) (hfa : mg "law" = some (.ref fa))
    {f0 : Addr} {od0 an0 : Option Addr} {sl0 : Array (Option Value)} {oc0 kV0 dc0 pm0 cd0 ct0 : Value}
    {f1 : Addr} {od1 an1 : Option Addr} {sl1 : Array (Option Value)} {oc1 kV1 dc1 pm1 cd1 ct1 : Value}
    {f2 : Addr} {od2 an2 : Option Addr} {sl2 : Array (Option Value)} {oc2 kV2 dc2 pm2 cd2 ct2 : Value}
    {f3 : Addr} {od3 an3 : Option Addr} {sl3 : Array (Option Value)} {oc3 kV3 dc3 pm3 cd3 ct3 : Value}
    {f4 : Addr} {od4 an4 : Option Addr} {sl4 : Array (Option Value)} {oc4 kV4 dc4 pm4 cd4 ct4 : Value}
    {f5 : Addr} {od5 an5 : Option Addr} {sl5 : Array (Option Value)} {oc5 kV5 dc5 pm5 cd5 ct5 : Value}
    {f6 : Addr} {od6 an6 : Option Addr} {sl6 : Array (Option Value)} {oc6 kV6 dc6 pm6 cd6 ct6 : Value}
    {f7 : Addr} {od7 an7 : Option Addr} {sl7 : Array (Option Value)} {oc7 kV7 dc7 pm7 cd7 ct7 : Value}
    {f8 : Addr} {od8 an8 : Option Addr} {sl8 : Array (Option Value)} {oc8 kV8 dc8 pm8 cd8 ct8 : Value}
    {f9 : Addr} {od9 an9 : Option Addr} {sl9 : Array (Option Value)} {oc9 kV9 dc9 pm9 cd9 ct9 : Value}
    {f10 : Addr} {od10 an10 : Option Addr} {sl10 : Array (Option Value)} {oc10 kV10 dc10 pm10 cd10 ct10 : Value}
    {f11 : Addr} {od11 an11 : Option Addr} {sl11 : Array (Option Value)} {oc11 kV11 dc11 pm11 cd11 ct11 : Value}
    {f12 : Addr} {od12 an12 : Option Addr} {sl12 : Array (Option Value)} {oc12 kV12 dc12 pm12 cd12 ct12 : Value}
    {f13 : Addr} {od13 an13 : Option Addr} {sl13 : Array (Option Value)} {oc13 kV13 dc13 pm13 cd13 ct13 : Value}
    {f14 : Addr} {od14 an14 : Option Addr} {sl14 : Array (Option Value)} {oc14 kV14 dc14 pm14 cd14 ct14 : Value}
    {f15 : Addr} {od15 an15 : Option Addr} {sl15 : Array (Option Value)} {oc15 kV15 dc15 pm15 cd15 ct15 : Value}
    {f16 : Addr} {od16 an16 : Option Addr} {sl16 : Array (Option Value)} {oc16 kV16 dc16 pm16 cd16 ct16 : Value}
    {f17 : Addr} {od17 an17 : Option Addr} {sl17 : Array (Option Value)} {oc17 kV17 dc17 pm17 cd17 ct17 : Value}
    {f18 : Addr} {od18 an18 : Option Addr} {sl18 : Array (Option Value)} {oc18 kV18 dc18 pm18 cd18 ct18 : Value}
    {f19 : Addr} {od19 an19 : Option Addr} {sl19 : Array (Option Value)} {oc19 kV19 dc19 pm19 cd19 ct19 : Value}
    {f20 : Addr} {od20 an20 : Option Addr} {sl20 : Array (Option Value)} {oc20 kV20 dc20 pm20 cd20 ct20 : Value}
    {f21 : Addr} {od21 an21 : Option Addr} {sl21 : Array (Option Value)} {oc21 kV21 dc21 pm21 cd21 ct21 : Value}
    {f22 : Addr} {od22 an22 : Option Addr} {sl22 : Array (Option Value)} {oc22 kV22 dc22 pm22 cd22 ct22 : Value}
    {f23 : Addr} {od23 an23 : Option Addr} {sl23 : Array (Option Value)} {oc23 kV23 dc23 pm23 cd23 ct23 : Value}
    {f24 : Addr} {od24 an24 : Option Addr} {sl24 : Array (Option Value)} {oc24 kV24 dc24 pm24 cd24 ct24 : Value}
    {f25 : Addr} {od25 an25 : Option Addr} {sl25 : Array (Option Value)} {oc25 kV25 dc25 pm25 cd25 ct25 : Value}
    {f26 : Addr} {od26 an26 : Option Addr} {sl26 : Array (Option Value)} {oc26 kV26 dc26 pm26 cd26 ct26 : Value}
    {C_Stepper : Addr}
    {mf0 : Addr} {mod0 man0 : Option Addr} {msl0 : Array (Option Value)} {moc0 mkV0 mdc0 mpm0 mcd0 mct0 : Value}
    {mf1 : Addr} {mod1 man1 : Option Addr} {msl1 : Array (Option Value)} {moc1 mkV1 mdc1 mpm1 mcd1 mct1 : Value}
    {mf2 : Addr} {mod2 man2 : Option Addr} {msl2 : Array (Option Value)} {moc2 mkV2 mdc2 mpm2 mcd2 mct2 : Value}
    {mf3 : Addr} {mod3 man3 : Option Addr} {msl3 : Array (Option Value)} {moc3 mkV3 mdc3 mpm3 mcd3 mct3 : Value}
    {mf4 : Addr} {mod4 man4 : Option Addr} {msl4 : Array (Option Value)} {moc4 mkV4 mdc4 mpm4 mcd4 mct4 : Value}
    {mf5 : Addr} {mod5 man5 : Option Addr} {msl5 : Array (Option Value)} {moc5 mkV5 mdc5 mpm5 mcd5 mct5 : Value}
    {mf6 : Addr} {mod6 man6 : Option Addr} {msl6 : Array (Option Value)} {moc6 mkV6 mdc6 mpm6 mcd6 mct6 : Value}
    {mf7 : Addr} {mod7 man7 : Option Addr} {msl7 : Array (Option Value)} {moc7 mkV7 mdc7 mpm7 mcd7 mct7 : Value}
    {mf8 : Addr} {mod8 man8 : Option Addr} {msl8 : Array (Option Value)} {moc8 mkV8 mdc8 mpm8 mcd8 mct8 : Value}
    {mf9 : Addr} {mod9 man9 : Option Addr} {msl9 : Array (Option Value)} {moc9 mkV9 mdc9 mpm9 mcd9 mct9 : Value}
    {mf10 : Addr} {mod10 man10 : Option Addr} {msl10 : Array (Option Value)} {moc10 mkV10 mdc10 mpm10 mcd10 mct10 : Value}
    {mf11 : Addr} {mod11 man11 : Option Addr} {msl11 : Array (Option Value)} {moc11 mkV11 mdc11 mpm11 mcd11 mct11 : Value}
    {t0 : Tok}
    {t1 : Tok}
    {C_NoNumber : Addr}
    {C_NoTable : Addr}
    {C_SeamError : Addr}
    {C_NoPiece : Addr}
    {C_NoChain : Addr}
    {C_NoWeb : Addr}
    {C_NoGoal : Addr}
    (a0 : PySem.W.nsIn K mainGlobals "width" = some (some (.ref f0))) (l0 : K.lookup f0 = some ⟨oc0, od0, .func (PySem.W.fnOf "width" "width" (defArgs s_width) (defBody s_width) (defScope s_width) .none kV0 dc0 pm0 an0 cd0 ct0), sl0⟩) (c0 : PySem.W.codeIn K cd0 "width" = true) (k0 : PySem.W.keepIn K (.ref f0) = true)
    (a1 : PySem.W.nsIn K mainGlobals "is_table" = some (some (.ref f1))) (l1 : K.lookup f1 = some ⟨oc1, od1, .func (PySem.W.fnOf "is_table" "is_table" (defArgs s_is_table) (defBody s_is_table) (defScope s_is_table) .none kV1 dc1 pm1 an1 cd1 ct1), sl1⟩) (c1 : PySem.W.codeIn K cd1 "is_table" = true) (k1 : PySem.W.keepIn K (.ref f1) = true)
    (a2 : PySem.W.nsIn K mainGlobals "must_be_table" = some (some (.ref f2))) (l2 : K.lookup f2 = some ⟨oc2, od2, .func (PySem.W.fnOf "must_be_table" "must_be_table" (defArgs s_must_be_table) (defBody s_must_be_table) (defScope s_must_be_table) .none kV2 dc2 pm2 an2 cd2 ct2), sl2⟩) (c2 : PySem.W.codeIn K cd2 "must_be_table" = true) (k2 : PySem.W.keepIn K (.ref f2) = true)
    (a3 : PySem.W.nsIn K mainGlobals "even" = some (some (.ref f3))) (l3 : K.lookup f3 = some ⟨oc3, od3, .func (PySem.W.fnOf "even" "even" (defArgs s_even) (defBody s_even) (defScope s_even) .none kV3 dc3 pm3 an3 cd3 ct3), sl3⟩) (c3 : PySem.W.codeIn K cd3 "even" = true) (k3 : PySem.W.keepIn K (.ref f3) = true)
    (a4 : PySem.W.nsIn K mainGlobals "paper_of" = some (some (.ref f4))) (l4 : K.lookup f4 = some ⟨oc4, od4, .func (PySem.W.fnOf "paper_of" "paper_of" (defArgs s_paper_of) (defBody s_paper_of) (defScope s_paper_of) .none kV4 dc4 pm4 an4 cd4 ct4), sl4⟩) (c4 : PySem.W.codeIn K cd4 "paper_of" = true) (k4 : PySem.W.keepIn K (.ref f4) = true)
    (a5 : PySem.W.nsIn K mainGlobals "stepped" = some (some (.ref f5))) (l5 : K.lookup f5 = some ⟨oc5, od5, .func (PySem.W.fnOf "stepped" "stepped" (defArgs s_stepped) (defBody s_stepped) (defScope s_stepped) .none kV5 dc5 pm5 an5 cd5 ct5), sl5⟩) (c5 : PySem.W.codeIn K cd5 "stepped" = true) (k5 : PySem.W.keepIn K (.ref f5) = true)
    (a6 : PySem.W.nsIn K mainGlobals "steps_of" = some (some (.ref f6))) (l6 : K.lookup f6 = some ⟨oc6, od6, .func (PySem.W.fnOf "steps_of" "steps_of" (defArgs s_steps_of) (defBody s_steps_of) (defScope s_steps_of) .none kV6 dc6 pm6 an6 cd6 ct6), sl6⟩) (c6 : PySem.W.codeIn K cd6 "steps_of" = true) (k6 : PySem.W.keepIn K (.ref f6) = true)
    (a7 : PySem.W.nsIn K mainGlobals "rank" = some (some (.ref f7))) (l7 : K.lookup f7 = some ⟨oc7, od7, .func (PySem.W.fnOf "rank" "rank" (defArgs s_rank) (defBody s_rank) (defScope s_rank) .none kV7 dc7 pm7 an7 cd7 ct7), sl7⟩) (c7 : PySem.W.codeIn K cd7 "rank" = true) (k7 : PySem.W.keepIn K (.ref f7) = true)
    (a8 : PySem.W.nsIn K mainGlobals "is_prime" = some (some (.ref f8))) (l8 : K.lookup f8 = some ⟨oc8, od8, .func (PySem.W.fnOf "is_prime" "is_prime" (defArgs s_is_prime) (defBody s_is_prime) (defScope s_is_prime) .none kV8 dc8 pm8 an8 cd8 ct8), sl8⟩) (c8 : PySem.W.codeIn K cd8 "is_prime" = true) (k8 : PySem.W.keepIn K (.ref f8) = true)
    (a9 : PySem.W.nsIn K mainGlobals "must_be_prime" = some (some (.ref f9))) (l9 : K.lookup f9 = some ⟨oc9, od9, .func (PySem.W.fnOf "must_be_prime" "must_be_prime" (defArgs s_must_be_prime) (defBody s_must_be_prime) (defScope s_must_be_prime) .none kV9 dc9 pm9 an9 cd9 ct9), sl9⟩) (c9 : PySem.W.codeIn K cd9 "must_be_prime" = true) (k9 : PySem.W.keepIn K (.ref f9) = true)
    (a10 : PySem.W.nsIn K mainGlobals "rank_by" = some (some (.ref f10))) (l10 : K.lookup f10 = some ⟨oc10, od10, .func (PySem.W.fnOf "rank_by" "rank_by" (defArgs s_rank_by) (defBody s_rank_by) (defScope s_rank_by) .none kV10 dc10 pm10 an10 cd10 ct10), sl10⟩) (c10 : PySem.W.codeIn K cd10 "rank_by" = true) (k10 : PySem.W.keepIn K (.ref f10) = true)
    (a11 : PySem.W.nsIn K mainGlobals "_law_cell_at" = some (some (.ref f11))) (l11 : K.lookup f11 = some ⟨oc11, od11, .func (PySem.W.fnOf "_law_cell_at" "_law_cell_at" (defArgs s__law_cell_at) (defBody s__law_cell_at) (defScope s__law_cell_at) .none kV11 dc11 pm11 an11 cd11 ct11), sl11⟩) (c11 : PySem.W.codeIn K cd11 "_law_cell_at" = true) (k11 : PySem.W.keepIn K (.ref f11) = true)
    (a12 : PySem.W.nsIn K mainGlobals "_law_box" = some (some (.ref f12))) (l12 : K.lookup f12 = some ⟨oc12, od12, .func (PySem.W.fnOf "_law_box" "_law_box" (defArgs s__law_box) (defBody s__law_box) (defScope s__law_box) .none kV12 dc12 pm12 an12 cd12 ct12), sl12⟩) (c12 : PySem.W.codeIn K cd12 "_law_box" = true) (k12 : PySem.W.keepIn K (.ref f12) = true)
    (a13 : PySem.W.nsIn K mainGlobals "_law_take" = some (some (.ref f13))) (l13 : K.lookup f13 = some ⟨oc13, od13, .func (PySem.W.fnOf "_law_take" "_law_take" (defArgs s__law_take) (defBody s__law_take) (defScope s__law_take) .none kV13 dc13 pm13 an13 cd13 ct13), sl13⟩) (c13 : PySem.W.codeIn K cd13 "_law_take" = true) (k13 : PySem.W.keepIn K (.ref f13) = true)
    (a14 : PySem.W.nsIn K mainGlobals "_law_row" = some (some (.ref f14))) (l14 : K.lookup f14 = some ⟨oc14, od14, .func (PySem.W.fnOf "_law_row" "_law_row" (defArgs s__law_row) (defBody s__law_row) (defScope s__law_row) .none kV14 dc14 pm14 an14 cd14 ct14), sl14⟩) (c14 : PySem.W.codeIn K cd14 "_law_row" = true) (k14 : PySem.W.keepIn K (.ref f14) = true)
    (a15 : PySem.W.nsIn K mainGlobals "_law_table" = some (some (.ref f15))) (l15 : K.lookup f15 = some ⟨oc15, od15, .func (PySem.W.fnOf "_law_table" "_law_table" (defArgs s__law_table) (defBody s__law_table) (defScope s__law_table) .none kV15 dc15 pm15 an15 cd15 ct15), sl15⟩) (c15 : PySem.W.codeIn K cd15 "_law_table" = true) (k15 : PySem.W.keepIn K (.ref f15) = true)
    (a16 : PySem.W.nsIn K mainGlobals "_law_wide" = some (some (.ref f16))) (l16 : K.lookup f16 = some ⟨oc16, od16, .func (PySem.W.fnOf "_law_wide" "_law_wide" (defArgs s__law_wide) (defBody s__law_wide) (defScope s__law_wide) .none kV16 dc16 pm16 an16 cd16 ct16), sl16⟩) (c16 : PySem.W.codeIn K cd16 "_law_wide" = true) (k16 : PySem.W.keepIn K (.ref f16) = true)
    (a17 : PySem.W.nsIn K mainGlobals "_law_whole" = some (some (.ref f17))) (l17 : K.lookup f17 = some ⟨oc17, od17, .func (PySem.W.fnOf "_law_whole" "_law_whole" (defArgs s__law_whole) (defBody s__law_whole) (defScope s__law_whole) .none kV17 dc17 pm17 an17 cd17 ct17), sl17⟩) (c17 : PySem.W.codeIn K cd17 "_law_whole" = true) (k17 : PySem.W.keepIn K (.ref f17) = true)
    (a18 : PySem.W.nsIn K mainGlobals "_law_row_like" = some (some (.ref f18))) (l18 : K.lookup f18 = some ⟨oc18, od18, .func (PySem.W.fnOf "_law_row_like" "_law_row_like" (defArgs s__law_row_like) (defBody s__law_row_like) (defScope s__law_row_like) .none kV18 dc18 pm18 an18 cd18 ct18), sl18⟩) (c18 : PySem.W.codeIn K cd18 "_law_row_like" = true) (k18 : PySem.W.keepIn K (.ref f18) = true)
    (a19 : PySem.W.nsIn K mainGlobals "_law_which" = some (some (.ref f19))) (l19 : K.lookup f19 = some ⟨oc19, od19, .func (PySem.W.fnOf "_law_which" "_law_which" (defArgs s__law_which) (defBody s__law_which) (defScope s__law_which) .none kV19 dc19 pm19 an19 cd19 ct19), sl19⟩) (c19 : PySem.W.codeIn K cd19 "_law_which" = true) (k19 : PySem.W.keepIn K (.ref f19) = true)
    (a20 : PySem.W.nsIn K mainGlobals "_law_common" = some (some (.ref f20))) (l20 : K.lookup f20 = some ⟨oc20, od20, .func (PySem.W.fnOf "_law_common" "_law_common" (defArgs s__law_common) (defBody s__law_common) (defScope s__law_common) .none kV20 dc20 pm20 an20 cd20 ct20), sl20⟩) (c20 : PySem.W.codeIn K cd20 "_law_common" = true) (k20 : PySem.W.keepIn K (.ref f20) = true)
    (a21 : PySem.W.nsIn K mainGlobals "_law_determinant" = some (some (.ref f21))) (l21 : K.lookup f21 = some ⟨oc21, od21, .func (PySem.W.fnOf "_law_determinant" "_law_determinant" (defArgs s__law_determinant) (defBody s__law_determinant) (defScope s__law_determinant) .none kV21 dc21 pm21 an21 cd21 ct21), sl21⟩) (c21 : PySem.W.codeIn K cd21 "_law_determinant" = true) (k21 : PySem.W.keepIn K (.ref f21) = true)
    (a22 : PySem.W.nsIn K mainGlobals "_law_choices" = some (some (.ref f22))) (l22 : K.lookup f22 = some ⟨oc22, od22, .func (PySem.W.fnOf "_law_choices" "_law_choices" (defArgs s__law_choices) (defBody s__law_choices) (defScope s__law_choices) .none kV22 dc22 pm22 an22 cd22 ct22), sl22⟩) (c22 : PySem.W.codeIn K cd22 "_law_choices" = true) (k22 : PySem.W.keepIn K (.ref f22) = true)
    (a23 : PySem.W.nsIn K mainGlobals "_law_divisor" = some (some (.ref f23))) (l23 : K.lookup f23 = some ⟨oc23, od23, .func (PySem.W.fnOf "_law_divisor" "_law_divisor" (defArgs s__law_divisor) (defBody s__law_divisor) (defScope s__law_divisor) .none kV23 dc23 pm23 an23 cd23 ct23), sl23⟩) (c23 : PySem.W.codeIn K cd23 "_law_divisor" = true) (k23 : PySem.W.keepIn K (.ref f23) = true)
    (a24 : PySem.W.nsIn K mainGlobals "_law_steps" = some (some (.ref f24))) (l24 : K.lookup f24 = some ⟨oc24, od24, .func (PySem.W.fnOf "_law_steps" "_law_steps" (defArgs s__law_steps) (defBody s__law_steps) (defScope s__law_steps) .none kV24 dc24 pm24 an24 cd24 ct24), sl24⟩) (c24 : PySem.W.codeIn K cd24 "_law_steps" = true) (k24 : PySem.W.keepIn K (.ref f24) = true)
    (a25 : PySem.W.nsIn K mainGlobals "_law_asked" = some (some (.ref f25))) (l25 : K.lookup f25 = some ⟨oc25, od25, .func (PySem.W.fnOf "_law_asked" "_law_asked" (defArgs s__law_asked) (defBody s__law_asked) (defScope s__law_asked) .none kV25 dc25 pm25 an25 cd25 ct25), sl25⟩) (c25 : PySem.W.codeIn K cd25 "_law_asked" = true) (k25 : PySem.W.keepIn K (.ref f25) = true)
    (a26 : PySem.W.nsIn K mainGlobals "law" = some (some (.ref f26))) (l26 : K.lookup f26 = some ⟨oc26, od26, .func (PySem.W.fnOf "law" "law" (defArgs s_law) (defBody s_law) (defScope s_law) .none kV26 dc26 pm26 an26 cd26 ct26), sl26⟩) (c26 : PySem.W.codeIn K cd26 "law" = true) (k26 : PySem.W.keepIn K (.ref f26) = true)
    (sC : PySem.W.nsIn K mainGlobals "Stepper" = some (some (.ref C_Stepper)))
    (sg : PySem.W.plainGet K C_Stepper Str.empty = true)
    (sh : PySem.W.hasDictIn K C_Stepper = true)
    (so : PySem.W.plainOver K C_Stepper = true)
    (ss : PySem.W.findIn K (.ref C_Stepper) "__setattr__" = some (some (.builtin "object.__setattr__")))
    (sm : PySem.W.makesIn K C_Stepper = true)
    (sk : PySem.W.keepIn K (.ref C_Stepper) = true)
    (sn_table : PySem.W.findIn K (.ref C_Stepper) "table" = some none)
    (sn_left : PySem.W.findIn K (.ref C_Stepper) "left" = some none)
    (sn_left_back : PySem.W.findIn K (.ref C_Stepper) "left_back" = some none)
    (sn_right : PySem.W.findIn K (.ref C_Stepper) "right" = some none)
    (sn_right_back : PySem.W.findIn K (.ref C_Stepper) "right_back" = some none)
    (sn_rows : PySem.W.findIn K (.ref C_Stepper) "rows" = some none)
    (sn_columns : PySem.W.findIn K (.ref C_Stepper) "columns" = some none)
    (ma0 : PySem.W.findIn K (.ref C_Stepper) "__init__" = some (some (.ref mf0))) (mi0 : PySem.W.isFn K (.ref mf0) = true) (ml0 : K.lookup mf0 = some ⟨moc0, mod0, .func (PySem.W.fnOf "__init__" "Stepper.__init__" (defArgs s_stInit) (defBody s_stInit) (defScope s_stInit) .none mkV0 mdc0 mpm0 man0 mcd0 mct0), msl0⟩) (mc0 : PySem.W.codeIn K mcd0 "Stepper.__init__" = true) (mk0 : PySem.W.keepIn K (.ref mf0) = true)
    (ma1 : PySem.W.findIn K (.ref C_Stepper) "row_to" = some (some (.ref mf1))) (mi1 : PySem.W.isFn K (.ref mf1) = true) (ml1 : K.lookup mf1 = some ⟨moc1, mod1, .func (PySem.W.fnOf "row_to" "Stepper.row_to" (defArgs s_row_to) (defBody s_row_to) (defScope s_row_to) .none mkV1 mdc1 mpm1 man1 mcd1 mct1), msl1⟩) (mc1 : PySem.W.codeIn K mcd1 "Stepper.row_to" = true) (mk1 : PySem.W.keepIn K (.ref mf1) = true)
    (ma2 : PySem.W.findIn K (.ref C_Stepper) "column_to" = some (some (.ref mf2))) (mi2 : PySem.W.isFn K (.ref mf2) = true) (ml2 : K.lookup mf2 = some ⟨moc2, mod2, .func (PySem.W.fnOf "column_to" "Stepper.column_to" (defArgs s_column_to) (defBody s_column_to) (defScope s_column_to) .none mkV2 mdc2 mpm2 man2 mcd2 mct2), msl2⟩) (mc2 : PySem.W.codeIn K mcd2 "Stepper.column_to" = true) (mk2 : PySem.W.keepIn K (.ref mf2) = true)
    (ma3 : PySem.W.findIn K (.ref C_Stepper) "rows_changed" = some (some (.ref mf3))) (mi3 : PySem.W.isFn K (.ref mf3) = true) (ml3 : K.lookup mf3 = some ⟨moc3, mod3, .func (PySem.W.fnOf "rows_changed" "Stepper.rows_changed" (defArgs s_rows_changed) (defBody s_rows_changed) (defScope s_rows_changed) .none mkV3 mdc3 mpm3 man3 mcd3 mct3), msl3⟩) (mc3 : PySem.W.codeIn K mcd3 "Stepper.rows_changed" = true) (mk3 : PySem.W.keepIn K (.ref mf3) = true)
    (ma4 : PySem.W.findIn K (.ref C_Stepper) "columns_changed" = some (some (.ref mf4))) (mi4 : PySem.W.isFn K (.ref mf4) = true) (ml4 : K.lookup mf4 = some ⟨moc4, mod4, .func (PySem.W.fnOf "columns_changed" "Stepper.columns_changed" (defArgs s_columns_changed) (defBody s_columns_changed) (defScope s_columns_changed) .none mkV4 mdc4 mpm4 man4 mcd4 mct4), msl4⟩) (mc4 : PySem.W.codeIn K mcd4 "Stepper.columns_changed" = true) (mk4 : PySem.W.keepIn K (.ref mf4) = true)
    (ma5 : PySem.W.findIn K (.ref C_Stepper) "row_contrary" = some (some (.ref mf5))) (mi5 : PySem.W.isFn K (.ref mf5) = true) (ml5 : K.lookup mf5 = some ⟨moc5, mod5, .func (PySem.W.fnOf "row_contrary" "Stepper.row_contrary" (defArgs s_row_contrary) (defBody s_row_contrary) (defScope s_row_contrary) .none mkV5 mdc5 mpm5 man5 mcd5 mct5), msl5⟩) (mc5 : PySem.W.codeIn K mcd5 "Stepper.row_contrary" = true) (mk5 : PySem.W.keepIn K (.ref mf5) = true)
    (ma6 : PySem.W.findIn K (.ref C_Stepper) "least_from" = some (some (.ref mf6))) (mi6 : PySem.W.isFn K (.ref mf6) = true) (ml6 : K.lookup mf6 = some ⟨moc6, mod6, .func (PySem.W.fnOf "least_from" "Stepper.least_from" (defArgs s_least_from) (defBody s_least_from) (defScope s_least_from) .none mkV6 mdc6 mpm6 man6 mcd6 mct6), msl6⟩) (mc6 : PySem.W.codeIn K mcd6 "Stepper.least_from" = true) (mk6 : PySem.W.keepIn K (.ref mf6) = true)
    (ma7 : PySem.W.findIn K (.ref C_Stepper) "is_clear" = some (some (.ref mf7))) (mi7 : PySem.W.isFn K (.ref mf7) = true) (ml7 : K.lookup mf7 = some ⟨moc7, mod7, .func (PySem.W.fnOf "is_clear" "Stepper.is_clear" (defArgs s_is_clear) (defBody s_is_clear) (defScope s_is_clear) .none mkV7 mdc7 mpm7 man7 mcd7 mct7), msl7⟩) (mc7 : PySem.W.codeIn K mcd7 "Stepper.is_clear" = true) (mk7 : PySem.W.keepIn K (.ref mf7) = true)
    (ma8 : PySem.W.findIn K (.ref C_Stepper) "cleared" = some (some (.ref mf8))) (mi8 : PySem.W.isFn K (.ref mf8) = true) (ml8 : K.lookup mf8 = some ⟨moc8, mod8, .func (PySem.W.fnOf "cleared" "Stepper.cleared" (defArgs s_cleared) (defBody s_cleared) (defScope s_cleared) .none mkV8 mdc8 mpm8 man8 mcd8 mct8), msl8⟩) (mc8 : PySem.W.codeIn K mcd8 "Stepper.cleared" = true) (mk8 : PySem.W.keepIn K (.ref mf8) = true)
    (ma9 : PySem.W.findIn K (.ref C_Stepper) "undivided" = some (some (.ref mf9))) (mi9 : PySem.W.isFn K (.ref mf9) = true) (ml9 : K.lookup mf9 = some ⟨moc9, mod9, .func (PySem.W.fnOf "undivided" "Stepper.undivided" (defArgs s_undivided) (defBody s_undivided) (defScope s_undivided) .none mkV9 mdc9 mpm9 man9 mcd9 mct9), msl9⟩) (mc9 : PySem.W.codeIn K mcd9 "Stepper.undivided" = true) (mk9 : PySem.W.keepIn K (.ref mf9) = true)
    (ma10 : PySem.W.findIn K (.ref C_Stepper) "do" = some (some (.ref mf10))) (mi10 : PySem.W.isFn K (.ref mf10) = true) (ml10 : K.lookup mf10 = some ⟨moc10, mod10, .func (PySem.W.fnOf "do" "Stepper.do" (defArgs s_do) (defBody s_do) (defScope s_do) .none mkV10 mdc10 mpm10 man10 mcd10 mct10), msl10⟩) (mc10 : PySem.W.codeIn K mcd10 "Stepper.do" = true) (mk10 : PySem.W.keepIn K (.ref mf10) = true)
    (ma11 : PySem.W.findIn K (.ref C_Stepper) "paper" = some (some (.ref mf11))) (mi11 : PySem.W.isFn K (.ref mf11) = true) (ml11 : K.lookup mf11 = some ⟨moc11, mod11, .func (PySem.W.fnOf "paper" "Stepper.paper" (defArgs s_paper) (defBody s_paper) (defScope s_paper) .none mkV11 mdc11 mpm11 man11 mcd11 mct11), msl11⟩) (mc11 : PySem.W.codeIn K mcd11 "Stepper.paper" = true) (mk11 : PySem.W.keepIn K (.ref mf11) = true)
    (z0 : PySem.W.nsIn K mainGlobals "ValueError" = some none)
    (z1 : PySem.W.nsIn K mainGlobals "abs" = some none)
    (z2 : PySem.W.nsIn K mainGlobals "all" = some none)
    (z3 : PySem.W.nsIn K mainGlobals "any" = some none)
    (z4 : PySem.W.nsIn K mainGlobals "bool" = some none)
    (z5 : PySem.W.nsIn K mainGlobals "int" = some none)
    (z6 : PySem.W.nsIn K mainGlobals "isinstance" = some none)
    (z7 : PySem.W.nsIn K mainGlobals "len" = some none)
    (z8 : PySem.W.nsIn K mainGlobals "list" = some none)
    (z9 : PySem.W.nsIn K mainGlobals "min" = some none)
    (z10 : PySem.W.nsIn K mainGlobals "range" = some none)
    (z11 : PySem.W.nsIn K mainGlobals "zip" = some none)
    (gc0 : PySem.W.nsIn K mainGlobals "MOST" = some (some (.int 40 t0)))
    (gc1 : PySem.W.nsIn K mainGlobals "MOST_PRIME" = some (some (.int 100 t1)))
    (x1 : PySem.W.nsIn K mainGlobals "NoNumber" = some (some (.ref C_NoNumber)))
    (x2 : PySem.W.excIn K C_NoNumber [.type "ValueError", .type "Exception", .type "BaseException", .type "object"] "ValueError.__new__" = true)
    (x3 : PySem.W.keepIn K (.ref C_NoNumber) = true)
    (x4 : PySem.W.subIn K (.ref C_NoNumber) (.type "BaseException") = some true)
    (x5 : PySem.W.typeIn K (.ref C_NoNumber) = some (.type "type"))
    (x7 : PySem.W.nsIn K mainGlobals "NoTable" = some (some (.ref C_NoTable)))
    (x8 : PySem.W.excIn K C_NoTable [.type "ValueError", .type "Exception", .type "BaseException", .type "object"] "ValueError.__new__" = true)
    (x9 : PySem.W.keepIn K (.ref C_NoTable) = true)
    (x10 : PySem.W.subIn K (.ref C_NoTable) (.type "BaseException") = some true)
    (x11 : PySem.W.typeIn K (.ref C_NoTable) = some (.type "type"))
    (x13 : PySem.W.nsIn K mainGlobals "SeamError" = some (some (.ref C_SeamError)))
    (x14 : PySem.W.subIn K (.ref C_SeamError) (.type "BaseException") = some true)
    (x15 : PySem.W.hasDictIn K C_SeamError = true)
    (x16 : PySem.W.typeIn K (.ref C_SeamError) = some (.type "type"))
    (x17 : PySem.W.subIn K (.ref C_NoNumber) (.ref C_SeamError) = some true)
    (x18 : PySem.W.subIn K (.ref C_NoTable) (.ref C_SeamError) = some true)
    (x19 : PySem.W.findIn K (.ref C_NoNumber) "__getattribute__" = some (some (.builtin "BaseException.__getattribute__")))
    (x20 : PySem.W.findIn K (.ref C_NoNumber) "__getattr__" = some none)
    (x21 : PySem.W.hasDictIn K C_NoNumber = true)
    (x22 : PySem.W.findIn K (.ref C_NoNumber) "__class__" = some (some (.builtin "object.__class__")))
    (x23 : PySem.W.specialIn K (.builtin "object.__class__") "__get__" = some (some (.builtin "getset_descriptor.__get__")))
    (x24 : PySem.W.takesIn K (.builtin "object.__class__") = some true)
    (x25 : PySem.W.mroIn K C_NoNumber (.type "object") = some true)
    (x26 : PySem.W.subIn K (.ref C_NoNumber) (.type "ValueError") = some true)
    (x27 : PySem.W.findIn K (.ref C_NoTable) "__getattribute__" = some (some (.builtin "BaseException.__getattribute__")))
    (x28 : PySem.W.findIn K (.ref C_NoTable) "__getattr__" = some none)
    (x29 : PySem.W.hasDictIn K C_NoTable = true)
    (x30 : PySem.W.findIn K (.ref C_NoTable) "__class__" = some (some (.builtin "object.__class__")))
    (x31 : PySem.W.mroIn K C_NoTable (.type "object") = some true)
    (x32 : PySem.W.subIn K (.ref C_NoTable) (.type "ValueError") = some true)
    (x34 : PySem.W.nsIn K mainGlobals "NoPiece" = some (some (.ref C_NoPiece)))
    (x35 : (Value.ref C_NoNumber == Value.ref C_NoPiece) = false)
    (x36 : PySem.W.hasDictIn K C_NoPiece = true)
    (x37 : PySem.W.typeIn K (.ref C_NoPiece) = some (.type "type"))
    (x38 : PySem.W.subIn K (.ref C_NoNumber) (.ref C_NoPiece) = some false)
    (x40 : PySem.W.nsIn K mainGlobals "NoChain" = some (some (.ref C_NoChain)))
    (x41 : (Value.ref C_NoNumber == Value.ref C_NoChain) = false)
    (x42 : PySem.W.hasDictIn K C_NoChain = true)
    (x43 : PySem.W.typeIn K (.ref C_NoChain) = some (.type "type"))
    (x44 : PySem.W.subIn K (.ref C_NoNumber) (.ref C_NoChain) = some false)
    (x46 : PySem.W.nsIn K mainGlobals "NoWeb" = some (some (.ref C_NoWeb)))
    (x47 : (Value.ref C_NoNumber == Value.ref C_NoWeb) = false)
    (x48 : PySem.W.hasDictIn K C_NoWeb = true)
    (x49 : PySem.W.typeIn K (.ref C_NoWeb) = some (.type "type"))
    (x50 : PySem.W.subIn K (.ref C_NoNumber) (.ref C_NoWeb) = some false)
    (x52 : PySem.W.nsIn K mainGlobals "NoGoal" = some (some (.ref C_NoGoal)))
    (x53 : (Value.ref C_NoNumber == Value.ref C_NoGoal) = false)
    (x54 : PySem.W.hasDictIn K C_NoGoal = true)
    (x55 : PySem.W.typeIn K (.ref C_NoGoal) = some (.type "type"))
    (x56 : PySem.W.subIn K (.ref C_NoNumber) (.ref C_NoGoal) = some false)
    (x57 : (Value.ref C_NoNumber == Value.ref C_NoTable) = false)
    (x58 : PySem.W.subIn K (.ref C_NoNumber) (.ref C_NoTable) = some false)
    (x59 : (Value.ref C_NoTable == Value.ref C_NoPiece) = false)
    (x60 : PySem.W.subIn K (.ref C_NoTable) (.ref C_NoPiece) = some false)
    (x61 : (Value.ref C_NoTable == Value.ref C_NoChain) = false)
    (x62 : PySem.W.subIn K (.ref C_NoTable) (.ref C_NoChain) = some false)
    (x63 : (Value.ref C_NoTable == Value.ref C_NoWeb) = false)
    (x64 : PySem.W.subIn K (.ref C_NoTable) (.ref C_NoWeb) = some false)
    (x65 : (Value.ref C_NoTable == Value.ref C_NoNumber) = false)
    (x66 : PySem.W.subIn K (.ref C_NoTable) (.ref C_NoNumber) = some false)
    (x67 : (Value.ref C_NoTable == Value.ref C_NoGoal) = false)
    (x68 : PySem.W.subIn K (.ref C_NoTable) (.ref C_NoGoal) = some false)
    : ∃ fd : FuncData, (∀ (s : Shared) (v : Value), BindsTo s fd ⟨[v], []⟩ [("script", v)]) ∧ ∀ base : Heap, K.In base → base.Ns mainGlobals mg → FnOk l.prog w K mg base CX0 10 fa fd ["script"] (sp_law K).sp := by
  have e := hfa.symm.trans (PySem.W.mg_of X G a26)
  cases e
  have T : Txs K mg := ⟨⟨⟨_, _, fun_mk (st := s_width) l0 c0 k0, PySem.W.mg_of X G a0, (fun_mk (st := s_width) l0 c0 k0).binds (ps := ["table"]) fun _ _ _ _ _ _ us hl => match us, hl with | [_], _ => rfl⟩⟩,
    ⟨⟨_, _, fun_mk (st := s_is_table) l1 c1 k1, PySem.W.mg_of X G a1, (fun_mk (st := s_is_table) l1 c1 k1).binds (ps := ["table"]) fun _ _ _ _ _ _ us hl => match us, hl with | [_], _ => rfl⟩⟩,
    ⟨⟨_, _, fun_mk (st := s_must_be_table) l2 c2 k2, PySem.W.mg_of X G a2, (fun_mk (st := s_must_be_table) l2 c2 k2).binds (ps := ["table"]) fun _ _ _ _ _ _ us hl => match us, hl with | [_], _ => rfl⟩⟩,
    ⟨⟨_, _, fun_mk (st := s_even) l3 c3 k3, PySem.W.mg_of X G a3, (fun_mk (st := s_even) l3 c3 k3).binds (ps := ["size"]) fun _ _ _ _ _ _ us hl => match us, hl with | [_], _ => rfl⟩⟩,
    ⟨⟨_, _, fun_mk (st := s_paper_of) l4 c4 k4, PySem.W.mg_of X G a4, (fun_mk (st := s_paper_of) l4 c4 k4).binds (ps := ["table", "rows", "columns"]) fun _ _ _ _ _ _ us hl => match us, hl with | [_, _, _], _ => rfl⟩⟩,
    ⟨⟨_, _, fun_mk (st := s_stepped) l5 c5 k5, PySem.W.mg_of X G a5, (fun_mk (st := s_stepped) l5 c5 k5).binds (ps := ["table"]) fun _ _ _ _ _ _ us hl => match us, hl with | [_], _ => rfl⟩⟩,
    ⟨⟨_, _, fun_mk (st := s_steps_of) l6 c6 k6, PySem.W.mg_of X G a6, (fun_mk (st := s_steps_of) l6 c6 k6).binds (ps := ["table"]) fun _ _ _ _ _ _ us hl => match us, hl with | [_], _ => rfl⟩⟩,
    ⟨⟨_, _, fun_mk (st := s_rank) l7 c7 k7, PySem.W.mg_of X G a7, (fun_mk (st := s_rank) l7 c7 k7).binds (ps := ["table"]) fun _ _ _ _ _ _ us hl => match us, hl with | [_], _ => rfl⟩⟩,
    ⟨⟨_, _, fun_mk (st := s_is_prime) l8 c8 k8, PySem.W.mg_of X G a8, (fun_mk (st := s_is_prime) l8 c8 k8).binds (ps := ["number"]) fun _ _ _ _ _ _ us hl => match us, hl with | [_], _ => rfl⟩⟩,
    ⟨⟨_, _, fun_mk (st := s_must_be_prime) l9 c9 k9, PySem.W.mg_of X G a9, (fun_mk (st := s_must_be_prime) l9 c9 k9).binds (ps := ["number"]) fun _ _ _ _ _ _ us hl => match us, hl with | [_], _ => rfl⟩⟩,
    ⟨⟨_, _, fun_mk (st := s_rank_by) l10 c10 k10, PySem.W.mg_of X G a10, (fun_mk (st := s_rank_by) l10 c10 k10).binds (ps := ["table", "prime"]) fun _ _ _ _ _ _ us hl => match us, hl with | [_, _], _ => rfl⟩⟩,
    ⟨⟨_, _, fun_mk (st := s__law_cell_at) l11 c11 k11, PySem.W.mg_of X G a11, (fun_mk (st := s__law_cell_at) l11 c11 k11).binds (ps := ["script", "k"]) fun _ _ _ _ _ _ us hl => match us, hl with | [_, _], _ => rfl⟩⟩,
    ⟨⟨_, _, fun_mk (st := s__law_box) l12 c12 k12, PySem.W.mg_of X G a12, (fun_mk (st := s__law_box) l12 c12 k12).binds (ps := ["cell"]) fun _ _ _ _ _ _ us hl => match us, hl with | [_], _ => rfl⟩⟩,
    ⟨⟨_, _, fun_mk (st := s__law_take) l13 c13 k13, PySem.W.mg_of X G a13, (fun_mk (st := s__law_take) l13 c13 k13).binds (ps := ["box", "most"]) fun _ _ _ _ _ _ us hl => match us, hl with | [_, _], _ => rfl⟩⟩,
    ⟨⟨_, _, fun_mk (st := s__law_row) l14 c14 k14, PySem.W.mg_of X G a14, (fun_mk (st := s__law_row) l14 c14 k14).binds (ps := ["box", "columns", "wide"]) fun _ _ _ _ _ _ us hl => match us, hl with | [_, _, _], _ => rfl⟩⟩,
    ⟨⟨_, _, fun_mk (st := s__law_table) l15 c15 k15, PySem.W.mg_of X G a15, (fun_mk (st := s__law_table) l15 c15 k15).binds (ps := ["box", "most"]) fun _ _ _ _ _ _ us hl => match us, hl with | [_, _], _ => rfl⟩⟩,
    ⟨⟨_, _, fun_mk (st := s__law_wide) l16 c16 k16, PySem.W.mg_of X G a16, (fun_mk (st := s__law_wide) l16 c16 k16).binds (ps := ["table"]) fun _ _ _ _ _ _ us hl => match us, hl with | [_], _ => rfl⟩⟩,
    ⟨⟨_, _, fun_mk (st := s__law_whole) l17 c17 k17, PySem.W.mg_of X G a17, (fun_mk (st := s__law_whole) l17 c17 k17).binds (ps := ["found"]) fun _ _ _ _ _ _ us hl => match us, hl with | [_], _ => rfl⟩⟩,
    ⟨⟨_, _, fun_mk (st := s__law_row_like) l18 c18 k18, PySem.W.mg_of X G a18, (fun_mk (st := s__law_row_like) l18 c18 k18).binds (ps := ["found"]) fun _ _ _ _ _ _ us hl => match us, hl with | [_], _ => rfl⟩⟩,
    ⟨⟨_, _, fun_mk (st := s__law_which) l19 c19 k19, PySem.W.mg_of X G a19, (fun_mk (st := s__law_which) l19 c19 k19).binds (ps := ["e"]) fun _ _ _ _ _ _ us hl => match us, hl with | [_], _ => rfl⟩⟩,
    ⟨⟨_, _, fun_mk (st := s__law_common) l20 c20 k20, PySem.W.mg_of X G a20, (fun_mk (st := s__law_common) l20 c20 k20).binds (ps := ["one", "other"]) fun _ _ _ _ _ _ us hl => match us, hl with | [_, _], _ => rfl⟩⟩,
    ⟨⟨_, _, fun_mk (st := s__law_determinant) l21 c21 k21, PySem.W.mg_of X G a21, (fun_mk (st := s__law_determinant) l21 c21 k21).binds (ps := ["rows"]) fun _ _ _ _ _ _ us hl => match us, hl with | [_], _ => rfl⟩⟩,
    ⟨⟨_, _, fun_mk (st := s__law_choices) l22 c22 k22, PySem.W.mg_of X G a22, (fun_mk (st := s__law_choices) l22 c22 k22).binds (ps := ["size", "many"]) fun _ _ _ _ _ _ us hl => match us, hl with | [_, _], _ => rfl⟩⟩,
    ⟨⟨_, _, fun_mk (st := s__law_divisor) l23 c23 k23, PySem.W.mg_of X G a23, (fun_mk (st := s__law_divisor) l23 c23 k23).binds (ps := ["table", "many"]) fun _ _ _ _ _ _ us hl => match us, hl with | [_, _], _ => rfl⟩⟩,
    ⟨⟨_, _, fun_mk (st := s__law_steps) l24 c24 k24, PySem.W.mg_of X G a24, (fun_mk (st := s__law_steps) l24 c24 k24).binds (ps := ["table"]) fun _ _ _ _ _ _ us hl => match us, hl with | [_], _ => rfl⟩⟩,
    ⟨⟨_, _, fun_mk (st := s__law_asked) l25 c25 k25, PySem.W.mg_of X G a25, (fun_mk (st := s__law_asked) l25 c25 k25).binds (ps := ["table", "prime"]) fun _ _ _ _ _ _ us hl => match us, hl with | [_, _], _ => rfl⟩⟩,
    ⟨⟨_, _, fun_mk (st := s_law) l26 c26 k26, PySem.W.mg_of X G a26, (fun_mk (st := s_law) l26 c26 k26).binds (ps := ["script"]) fun _ _ _ _ _ _ us hl => match us, hl with | [_], _ => rfl⟩⟩,
    ⟨_, PySem.W.mg_of X G sC, ⟨sg, sh, so, ss⟩, (fun f => match f with | .T => sn_table | .L => sn_left | .Lb => sn_left_back | .R => sn_right | .Rb => sn_right_back), sn_rows, sn_columns⟩,
    ⟨_, _, _, PySem.W.mg_of X G sC, ⟨sm, ma0, mi0, sk⟩, (fun_mk (st := s_stInit) ml0 mc0 mk0), (fun_mk (st := s_stInit) ml0 mc0 mk0).binds (ps := ["self", "table", "rows", "columns"]) fun _ _ _ _ _ _ us hl => match us, hl with | [_, _, _, _], _ => rfl⟩,
    ⟨⟨_, _, _, PySem.W.mg_of X G sC, ⟨sg, sh, so, ss⟩, ⟨ma1, mi1, mk1⟩, (fun_mk (st := s_row_to) ml1 mc1 mk1), (fun_mk (st := s_row_to) ml1 mc1 mk1).binds (ps := ["self", "one", "often", "other"]) fun _ _ _ _ _ _ us hl => match us, hl with | [_, _, _, _], _ => rfl⟩⟩,
    ⟨⟨_, _, _, PySem.W.mg_of X G sC, ⟨sg, sh, so, ss⟩, ⟨ma2, mi2, mk2⟩, (fun_mk (st := s_column_to) ml2 mc2 mk2), (fun_mk (st := s_column_to) ml2 mc2 mk2).binds (ps := ["self", "one", "often", "other"]) fun _ _ _ _ _ _ us hl => match us, hl with | [_, _, _, _], _ => rfl⟩⟩,
    ⟨⟨_, _, _, PySem.W.mg_of X G sC, ⟨sg, sh, so, ss⟩, ⟨ma3, mi3, mk3⟩, (fun_mk (st := s_rows_changed) ml3 mc3 mk3), (fun_mk (st := s_rows_changed) ml3 mc3 mk3).binds (ps := ["self", "one", "other"]) fun _ _ _ _ _ _ us hl => match us, hl with | [_, _, _], _ => rfl⟩⟩,
    ⟨⟨_, _, _, PySem.W.mg_of X G sC, ⟨sg, sh, so, ss⟩, ⟨ma4, mi4, mk4⟩, (fun_mk (st := s_columns_changed) ml4 mc4 mk4), (fun_mk (st := s_columns_changed) ml4 mc4 mk4).binds (ps := ["self", "one", "other"]) fun _ _ _ _ _ _ us hl => match us, hl with | [_, _, _], _ => rfl⟩⟩,
    ⟨⟨_, _, _, PySem.W.mg_of X G sC, ⟨sg, sh, so, ss⟩, ⟨ma5, mi5, mk5⟩, (fun_mk (st := s_row_contrary) ml5 mc5 mk5), (fun_mk (st := s_row_contrary) ml5 mc5 mk5).binds (ps := ["self", "one"]) fun _ _ _ _ _ _ us hl => match us, hl with | [_, _], _ => rfl⟩⟩,
    ⟨⟨_, _, _, PySem.W.mg_of X G sC, ⟨sg, sh, so, ss⟩, ⟨ma6, mi6, mk6⟩, (fun_mk (st := s_least_from) ml6 mc6 mk6), (fun_mk (st := s_least_from) ml6 mc6 mk6).binds (ps := ["self", "step"]) fun _ _ _ _ _ _ us hl => match us, hl with | [_, _], _ => rfl⟩⟩,
    ⟨⟨_, _, _, PySem.W.mg_of X G sC, ⟨sg, sh, so, ss⟩, ⟨ma7, mi7, mk7⟩, (fun_mk (st := s_is_clear) ml7 mc7 mk7), (fun_mk (st := s_is_clear) ml7 mc7 mk7).binds (ps := ["self", "step"]) fun _ _ _ _ _ _ us hl => match us, hl with | [_, _], _ => rfl⟩⟩,
    ⟨⟨_, _, _, PySem.W.mg_of X G sC, ⟨sg, sh, so, ss⟩, ⟨ma8, mi8, mk8⟩, (fun_mk (st := s_cleared) ml8 mc8 mk8), (fun_mk (st := s_cleared) ml8 mc8 mk8).binds (ps := ["self", "step"]) fun _ _ _ _ _ _ us hl => match us, hl with | [_, _], _ => rfl⟩⟩,
    ⟨⟨_, _, _, PySem.W.mg_of X G sC, ⟨sg, sh, so, ss⟩, ⟨ma9, mi9, mk9⟩, (fun_mk (st := s_undivided) ml9 mc9 mk9), (fun_mk (st := s_undivided) ml9 mc9 mk9).binds (ps := ["self", "step"]) fun _ _ _ _ _ _ us hl => match us, hl with | [_, _], _ => rfl⟩⟩,
    ⟨⟨_, _, _, PySem.W.mg_of X G sC, ⟨sg, sh, so, ss⟩, ⟨ma10, mi10, mk10⟩, (fun_mk (st := s_do) ml10 mc10 mk10), (fun_mk (st := s_do) ml10 mc10 mk10).binds (ps := ["self", "step"]) fun _ _ _ _ _ _ us hl => match us, hl with | [_, _], _ => rfl⟩⟩,
    ⟨⟨_, _, _, PySem.W.mg_of X G sC, ⟨sg, sh, so, ss⟩, ⟨ma11, mi11, mk11⟩, (fun_mk (st := s_paper) ml11 mc11 mk11), (fun_mk (st := s_paper) ml11 mc11 mk11).binds (ps := ["self"]) fun _ _ _ _ _ _ us hl => match us, hl with | [_], _ => rfl⟩⟩,
    PySem.W.mg_none_of X G z0,
    PySem.W.mg_none_of X G z1,
    PySem.W.mg_none_of X G z2,
    PySem.W.mg_none_of X G z3,
    PySem.W.mg_none_of X G z4,
    PySem.W.mg_none_of X G z5,
    PySem.W.mg_none_of X G z6,
    PySem.W.mg_none_of X G z7,
    PySem.W.mg_none_of X G z8,
    PySem.W.mg_none_of X G z9,
    PySem.W.mg_none_of X G z10,
    PySem.W.mg_none_of X G z11,
    ⟨_, PySem.W.mg_of X G gc0⟩,
    ⟨_, PySem.W.mg_of X G gc1⟩,
    er_at (nm := "NoNumber") rfl (PySem.W.mg_of X G x1) x2 x3 x4 x5,
    er_at (nm := "NoTable") rfl (PySem.W.mg_of X G x7) x8 x9 x10 x11,
    ⟨_, (PySem.W.mg_of X G x13), all_cons (er_exm (nm := "NoTable") rfl (PySem.W.mg_of X G x7) x14 x15 x16 x18) (all_cons (er_exm (nm := "NoNumber") rfl (PySem.W.mg_of X G x1) x14 x15 x16 x17) (all_nil))⟩,
    all_cons (er_isve (nm := "NoTable") rfl (PySem.W.mg_of X G x7) ⟨x27, x28, x10, x29, x30, x23, x24, x31⟩ x32) (all_cons (er_isve (nm := "NoNumber") rfl (PySem.W.mg_of X G x1) ⟨x19, x20, x4, x21, x22, x23, x24, x25⟩ x26) (all_nil)),
    all_cons (all_cons (er_is_self (nm := "NoTable") rfl (PySem.W.mg_of X G x7)) (all_cons (er_is_no (nm := "NoTable") (nm2 := "NoGoal") rfl rfl rfl (PySem.W.mg_of X G x7) (PySem.W.mg_of X G x52) x67 x54 x55 x68) (all_cons (er_is_no (nm := "NoTable") (nm2 := "NoNumber") rfl rfl rfl (PySem.W.mg_of X G x7) (PySem.W.mg_of X G x1) x65 x21 x5 x66) (all_cons (er_is_no (nm := "NoTable") (nm2 := "NoWeb") rfl rfl rfl (PySem.W.mg_of X G x7) (PySem.W.mg_of X G x46) x63 x48 x49 x64) (all_cons (er_is_no (nm := "NoTable") (nm2 := "NoChain") rfl rfl rfl (PySem.W.mg_of X G x7) (PySem.W.mg_of X G x40) x61 x42 x43 x62) (all_cons (er_is_no (nm := "NoTable") (nm2 := "NoPiece") rfl rfl rfl (PySem.W.mg_of X G x7) (PySem.W.mg_of X G x34) x59 x36 x37 x60) (all_nil))))))) (all_cons (all_cons (er_is_no (nm := "NoNumber") (nm2 := "NoTable") rfl rfl rfl (PySem.W.mg_of X G x1) (PySem.W.mg_of X G x7) x57 x29 x11 x58) (all_cons (er_is_no (nm := "NoNumber") (nm2 := "NoGoal") rfl rfl rfl (PySem.W.mg_of X G x1) (PySem.W.mg_of X G x52) x53 x54 x55 x56) (all_cons (er_is_self (nm := "NoNumber") rfl (PySem.W.mg_of X G x1)) (all_cons (er_is_no (nm := "NoNumber") (nm2 := "NoWeb") rfl rfl rfl (PySem.W.mg_of X G x1) (PySem.W.mg_of X G x46) x47 x48 x49 x50) (all_cons (er_is_no (nm := "NoNumber") (nm2 := "NoChain") rfl rfl rfl (PySem.W.mg_of X G x1) (PySem.W.mg_of X G x40) x41 x42 x43 x44) (all_cons (er_is_no (nm := "NoNumber") (nm2 := "NoPiece") rfl rfl rfl (PySem.W.mg_of X G x1) (PySem.W.mg_of X G x34) x35 x36 x37 x38) (all_nil))))))) (all_nil))⟩
  exact ⟨PySem.W.fnOf "law" "law" (defArgs s_law) (defBody s_law) (defScope s_law) .none kV26 dc26 pm26 an26 cd26 ct26, fun s v => .of_eq rfl, fun base _ _ => fn_law T (fun_mk (st := s_law) l26 c26 k26)⟩
end My
open PySem PySem.W PyProof.Rows
set_option maxHeartbeats 0 in
theorem PySem.Challenge.cw_seamwright_k22_steps_by_little_squares_holds : PySem.Challenge.rw_seamwright_k22_steps_by_little_squares.Holds := by
  w_on; o_law; k_head; (case hw => w_witness2)
  k_fill
  refine L2.walk_of (l := PySem.Challenge.rw_seamwright_k22_steps_by_little_squares) (n := 63) (k := 10) (x := "script") (CX := fun _ => L2.CX0) (sp := fun w => (My.sp_law _).sp) rfl (by decide) rfl ⟨rfl, by decide, by decide⟩ (fun w h Y => PySem.W.kIn_of Y) ?F (fun _ H a ns hl hO hS => My.law_fits hl hO hS) (fun _ _ _ _ _ h => h)
  case F =>
    intro w mg fa h KX G hmg
    refine' My.all_mk KX G hmg ?aa0 ?ll0 ?cc0 ?kk0 ?aa1 ?ll1 ?cc1 ?kk1 ?aa2 ?ll2 ?cc2 ?kk2 ?aa3 ?ll3 ?cc3 ?kk3 ?aa4 ?ll4 ?cc4 ?kk4 ?aa5 ?ll5 ?cc5 ?kk5 ?aa6 ?ll6 ?cc6 ?kk6 ?aa7 ?ll7 ?cc7 ?kk7 ?aa8 ?ll8 ?cc8 ?kk8 ?aa9 ?ll9 ?cc9 ?kk9 ?aa10 ?ll10 ?cc10 ?kk10 ?aa11 ?ll11 ?cc11 ?kk11 ?aa12 ?ll12 ?cc12 ?kk12 ?aa13 ?ll13 ?cc13 ?kk13 ?aa14 ?ll14 ?cc14 ?kk14 ?aa15 ?ll15 ?cc15 ?kk15 ?aa16 ?ll16 ?cc16 ?kk16 ?aa17 ?ll17 ?cc17 ?kk17 ?aa18 ?ll18 ?cc18 ?kk18 ?aa19 ?ll19 ?cc19 ?kk19 ?aa20 ?ll20 ?cc20 ?kk20 ?aa21 ?ll21 ?cc21 ?kk21 ?aa22 ?ll22 ?cc22 ?kk22 ?aa23 ?ll23 ?cc23 ?kk23 ?aa24 ?ll24 ?cc24 ?kk24 ?aa25 ?ll25 ?cc25 ?kk25 ?aa26 ?ll26 ?cc26 ?kk26 ?sC_ ?sg_ ?sh_ ?so_ ?ss_ ?sm_ ?sk_ ?sn_table_ ?sn_left_ ?sn_left_back_ ?sn_right_ ?sn_right_back_ ?sn_rows_ ?sn_columns_ ?maa0 ?mii0 ?mll0 ?mcc0 ?mkk0 ?maa1 ?mii1 ?mll1 ?mcc1 ?mkk1 ?maa2 ?mii2 ?mll2 ?mcc2 ?mkk2 ?maa3 ?mii3 ?mll3 ?mcc3 ?mkk3 ?maa4 ?mii4 ?mll4 ?mcc4 ?mkk4 ?maa5 ?mii5 ?mll5 ?mcc5 ?mkk5 ?maa6 ?mii6 ?mll6 ?mcc6 ?mkk6 ?maa7 ?mii7 ?mll7 ?mcc7 ?mkk7 ?maa8 ?mii8 ?mll8 ?mcc8 ?mkk8 ?maa9 ?mii9 ?mll9 ?mcc9 ?mkk9 ?maa10 ?mii10 ?mll10 ?mcc10 ?mkk10 ?maa11 ?mii11 ?mll11 ?mcc11 ?mkk11 ?zz0 ?zz1 ?zz2 ?zz3 ?zz4 ?zz5 ?zz6 ?zz7 ?zz8 ?zz9 ?zz10 ?zz11 ?gc0 ?gc1 ?xx1 ?xx2 ?xx3 ?xx4 ?xx5 ?xx7 ?xx8 ?xx9 ?xx10 ?xx11 ?xx13 ?xx14 ?xx15 ?xx16 ?xx17 ?xx18 ?xx19 ?xx20 ?xx21 ?xx22 ?xx23 ?xx24 ?xx25 ?xx26 ?xx27 ?xx28 ?xx29 ?xx30 ?xx31 ?xx32 ?xx34 ?xx35 ?xx36 ?xx37 ?xx38 ?xx40 ?xx41 ?xx42 ?xx43 ?xx44 ?xx46 ?xx47 ?xx48 ?xx49 ?xx50 ?xx52 ?xx53 ?xx54 ?xx55 ?xx56 ?xx57 ?xx58 ?xx59 ?xx60 ?xx61 ?xx62 ?xx63 ?xx64 ?xx65 ?xx66 ?xx67 ?xx68
    (case aa0 => k_is); (case ll0 => k_is); (case cc0 => k_is); (case kk0 => k_is); (case aa1 => k_is); (case ll1 => k_is); (case cc1 => k_is); (case kk1 => k_is)
    (case aa2 => k_is); (case ll2 => k_is); (case cc2 => k_is); (case kk2 => k_is); (case aa3 => k_is); (case ll3 => k_is); (case cc3 => k_is); (case kk3 => k_is)
    (case aa4 => k_is); (case ll4 => k_is); (case cc4 => k_is); (case kk4 => k_is); (case aa5 => k_is); (case ll5 => k_is); (case cc5 => k_is); (case kk5 => k_is)
    (case aa6 => k_is); (case ll6 => k_is); (case cc6 => k_is); (case kk6 => k_is); (case aa7 => k_is); (case ll7 => k_is); (case cc7 => k_is); (case kk7 => k_is)
    (case aa8 => k_is); (case ll8 => k_is); (case cc8 => k_is); (case kk8 => k_is); (case aa9 => k_is); (case ll9 => k_is); (case cc9 => k_is); (case kk9 => k_is)
    (case aa10 => k_is); (case ll10 => k_is); (case cc10 => k_is); (case kk10 => k_is); (case aa11 => k_is); (case ll11 => k_is); (case cc11 => k_is); (case kk11 => k_is)
    (case aa12 => k_is); (case ll12 => k_is); (case cc12 => k_is); (case kk12 => k_is); (case aa13 => k_is); (case ll13 => k_is); (case cc13 => k_is); (case kk13 => k_is)
    (case aa14 => k_is); (case ll14 => k_is); (case cc14 => k_is); (case kk14 => k_is); (case aa15 => k_is); (case ll15 => k_is); (case cc15 => k_is); (case kk15 => k_is)
    (case aa16 => k_is); (case ll16 => k_is); (case cc16 => k_is); (case kk16 => k_is); (case aa17 => k_is); (case ll17 => k_is); (case cc17 => k_is); (case kk17 => k_is)
    (case aa18 => k_is); (case ll18 => k_is); (case cc18 => k_is); (case kk18 => k_is); (case aa19 => k_is); (case ll19 => k_is); (case cc19 => k_is); (case kk19 => k_is)
    (case aa20 => k_is); (case ll20 => k_is); (case cc20 => k_is); (case kk20 => k_is); (case aa21 => k_is); (case ll21 => k_is); (case cc21 => k_is); (case kk21 => k_is)
    (case aa22 => k_is); (case ll22 => k_is); (case cc22 => k_is); (case kk22 => k_is); (case aa23 => k_is); (case ll23 => k_is); (case cc23 => k_is); (case kk23 => k_is)
    (case aa24 => k_is); (case ll24 => k_is); (case cc24 => k_is); (case kk24 => k_is); (case aa25 => k_is); (case ll25 => k_is); (case cc25 => k_is); (case kk25 => k_is)
    (case aa26 => k_is); (case ll26 => k_is); (case cc26 => k_is); (case kk26 => k_is); (case sC_ => k_is); (case sg_ => k_is); (case sh_ => k_is); (case so_ => k_is)
    (case ss_ => k_is); (case sm_ => k_is); (case sk_ => k_is); (case sn_table_ => k_is); (case sn_left_ => k_is); (case sn_left_back_ => k_is); (case sn_right_ => k_is); (case sn_right_back_ => k_is)
    (case sn_rows_ => k_is); (case sn_columns_ => k_is); (case maa0 => k_is); (case mii0 => k_is); (case mll0 => k_is); (case mcc0 => k_is); (case mkk0 => k_is); (case maa1 => k_is)
    (case mii1 => k_is); (case mll1 => k_is); (case mcc1 => k_is); (case mkk1 => k_is); (case maa2 => k_is); (case mii2 => k_is); (case mll2 => k_is); (case mcc2 => k_is)
    (case mkk2 => k_is); (case maa3 => k_is); (case mii3 => k_is); (case mll3 => k_is); (case mcc3 => k_is); (case mkk3 => k_is); (case maa4 => k_is); (case mii4 => k_is)
    (case mll4 => k_is); (case mcc4 => k_is); (case mkk4 => k_is); (case maa5 => k_is); (case mii5 => k_is); (case mll5 => k_is); (case mcc5 => k_is); (case mkk5 => k_is)
    (case maa6 => k_is); (case mii6 => k_is); (case mll6 => k_is); (case mcc6 => k_is); (case mkk6 => k_is); (case maa7 => k_is); (case mii7 => k_is); (case mll7 => k_is)
    (case mcc7 => k_is); (case mkk7 => k_is); (case maa8 => k_is); (case mii8 => k_is); (case mll8 => k_is); (case mcc8 => k_is); (case mkk8 => k_is); (case maa9 => k_is)
    (case mii9 => k_is); (case mll9 => k_is); (case mcc9 => k_is); (case mkk9 => k_is); (case maa10 => k_is); (case mii10 => k_is); (case mll10 => k_is); (case mcc10 => k_is)
    (case mkk10 => k_is); (case maa11 => k_is); (case mii11 => k_is); (case mll11 => k_is); (case mcc11 => k_is); (case mkk11 => k_is); (case zz0 => k_is); (case zz1 => k_is)
    (case zz2 => k_is); (case zz3 => k_is); (case zz4 => k_is); (case zz5 => k_is); (case zz6 => k_is); (case zz7 => k_is); (case zz8 => k_is); (case zz9 => k_is)
    (case zz10 => k_is); (case zz11 => k_is); (case gc0 => k_is); (case gc1 => k_is); (case xx1 => k_is); (case xx2 => k_exc); (case xx3 => k_is); (case xx4 => k_is)
    (case xx5 => k_is); (case xx7 => k_is); (case xx8 => k_exc); (case xx9 => k_is); (case xx10 => k_is); (case xx11 => k_is); (case xx13 => k_is); (case xx14 => k_is)
    (case xx15 => k_is); (case xx16 => k_is); (case xx17 => k_is); (case xx18 => k_is); (case xx19 => k_is); (case xx20 => k_is); (case xx21 => k_is); (case xx22 => k_is)
    (case xx23 => k_is); (case xx24 => k_is); (case xx25 => k_is); (case xx26 => k_is); (case xx27 => k_is); (case xx28 => k_is); (case xx29 => k_is); (case xx30 => k_is)
    (case xx31 => k_is); (case xx32 => k_is); (case xx34 => k_is); (case xx35 => first | rfl | decide); (case xx36 => k_is); (case xx37 => k_is); (case xx38 => k_is); (case xx40 => k_is)
    (case xx41 => first | rfl | decide); (case xx42 => k_is); (case xx43 => k_is); (case xx44 => k_is); (case xx46 => k_is); (case xx47 => first | rfl | decide); (case xx48 => k_is); (case xx49 => k_is)
    (case xx50 => k_is); (case xx52 => k_is); (case xx53 => first | rfl | decide); (case xx54 => k_is); (case xx55 => k_is); (case xx56 => k_is); (case xx57 => first | rfl | decide); (case xx58 => k_is)
    (case xx59 => first | rfl | decide); (case xx60 => k_is); (case xx61 => first | rfl | decide); (case xx62 => k_is); (case xx63 => first | rfl | decide); (case xx64 => k_is); (case xx65 => first | rfl | decide); (case xx66 => k_is)
    (case xx67 => first | rfl | decide); (case xx68 => k_is)


