import PyProof.Rows.All
import Wide.All
import OpenK.AllK
import Wide.FinOn
import PySem.Challenge.RW_nu0225_01
open PySem PySem.W PyProof.Rows PySem.Calls
set_option Elab.async false
set_option maxRecDepth 100000
set_option maxHeartbeats 8000000
namespace Mine
theorem two_goals {P : Prop} (_ : True) (h : P) : P := h
section
local macro_rules | `(tactic| o_head $_) => `(tactic| refine two_goals ?hw ?hc)
local macro_rules | `(tactic| w_witness2) => `(tactic| trivial)
open_top hd for PySem.Challenge.rw_nu0225_01.row
end
-- part MB

/-- a name is set -/
def upd (m : Str → Option Value) (x : Str) (v : Value) : Str → Option Value := fun y => if y = x then some v else m y
/-- a step's aim, hidden behind a letter -/
structure Hid {α : Type} (Q K : α → Shared → Prop) : Prop where
  on : ∀ v s, Q v s → K v s
theorem Hid.use {α : Type} {Q K : α → Shared → Prop} (x : Hid Q K) {v : α} {s : Shared} (h : Q v s) : K v s := x.on v s h
theorem Hid.self {α : Type} {Q : α → Shared → Prop} : Hid Q Q := ⟨fun _ _ x => x⟩
/-- a heap's objects stand in another -/
def Le (H h : Heap) : Prop := ∀ b o, H.get? b = some o → h.get? b = some o
theorem Le.refl {h : Heap} : Le h h := fun _ _ e => e
theorem Le.trans {a b c : Heap} (x : Le a b) (y : Le b c) : Le a c := fun _ _ e => y _ _ (x _ _ e)

open Classical in
/-- a heap with all but some objects hidden -/
noncomputable def restr (h : Heap) (p : Addr → Prop) : Heap :=
  ⟨h.objs.mapIdx fun i o => if p i then o else { o with data := .freed }, h.life⟩

theorem restr_get {h : Heap} {p : Addr → Prop} {b : Addr} {o : Obj} : (restr h p).get? b = some o ↔ p b ∧ h.get? b = some o := by
  rw [Heap.get?_some_iff, Heap.get?_some_iff]
  unfold restr
  simp only [Array.getElem?_mapIdx, Option.map_eq_some_iff]
  constructor
  · rintro ⟨⟨x, hx, e⟩, hf⟩
    by_cases hp : p b
    · rw [if_pos hp] at e; subst e; exact ⟨hp, hx, hf⟩
    · rw [if_neg hp] at e; subst e; cases hf
  · rintro ⟨hp, hx, hf⟩
    exact ⟨⟨o, hx, if_pos hp⟩, hf⟩

theorem get_none_or {h : Heap} (b : Addr) : h.get? b = none ∨ ∃ o, h.get? b = some o := by
  cases e : h.get? b with
  | none => exact .inl rfl
  | some o => exact .inr ⟨o, rfl⟩

/-- one step of the world: what is known of it before and behind -/
structure St (W : List Addr) (H : Heap) (s : Shared) (H' : Heap) (s' : Shared) : Prop where
  same : ∃ h tk, s' = { s with heap := h, toks := tk }
  kept : ∀ b o, b ∉ W → s.heap.get? b = some o → s'.heap.get? b = some o
  alive : ∀ b, s'.heap.get? b = none → s.heap.get? b = none
  le : Le H H'
  le' : Le H' s'.heap
  new : ∀ b o, H'.get? b = some o → H.get? b = some o ∨ s.heap.get? b = none

namespace St
variable {W : List Addr} {H H' H'' : Heap} {s s' s'' : Shared}
theorem refl (h : Le H s.heap) : St W H s H s := ⟨⟨_, _, rfl⟩, fun _ _ _ e => e, fun _ e => e, .refl, h, fun _ _ e => .inl e⟩
theorem trans (x : St W H s H' s') (y : St W H' s' H'' s'') : St W H s H'' s'' where
  same := by obtain ⟨h, t, rfl⟩ := x.same; obtain ⟨h', t', rfl⟩ := y.same; exact ⟨h', t', rfl⟩
  kept := fun b o hb e => y.kept b o hb (x.kept b o hb e)
  alive := fun b e => x.alive b (y.alive b e)
  le := x.le.trans y.le
  le' := y.le'
  new := fun b o e => (y.new b o e).elim (fun e' => x.new b o e') (fun e' => .inr (x.alive b e'))
theorem weaken {W' : List Addr} (x : St W H s H' s') (h : ∀ b ∈ W, b ∈ W') : St W' H s H' s' := ⟨x.same, fun b o hb e => x.kept b o (fun q => hb (h b q)) e, x.alive, x.le, x.le', x.new⟩
theorem keeps (x : St [] H s H' s') : Keeps s s' := by
  obtain ⟨h, t, rfl⟩ := x.same
  exact ⟨h, t, rfl, fun b o e => x.kept b o (by simp) e⟩
/-- what is absent stays unknown -/
theorem off (x : St W H s H' s') {b : Addr} {o : Obj} (h : H.get? b = none) (hs : s.heap.get? b = some o) : H'.get? b = none := by
  rcases get_none_or (h := H') b with e | ⟨o', e⟩
  · exact e
  · rcases x.new b o' e with q | q
    · rw [h] at q; cases q
    · rw [hs] at q; cases q
end St

def muts (env : Env) (ms : List (Addr × Obj)) : List Addr := env.locals :: (env.cells.map (·.2) ++ ms.map (·.1))

/-- a frame: what stands fixed (H), the names, the cells, the objects that may change -/
structure Fz (s₀ : Shared) (H₀ : Heap) (W : List Addr) (env : Env) (H : Heap) (m cm : Str → Option Value) (ms : List (Addr × Obj)) (s : Shared) : Prop where
  st : St W H₀ s₀ H s
  ns : s.heap.Ns env.locals m
  cell : ∀ n c, env.cells.lookup n = some c → s.heap.IsCell c (cm n)
  callb : ∀ n c, (n, c) ∈ env.cells → ∃ o, s.heap.get? c = some o
  ml : ∀ p ∈ ms, s.heap.get? p.1 = some p.2
  off : ∀ b ∈ muts env ms, H.get? b = none
  sep : (muts env ms).Nodup
  wr : ∀ b ∈ muts env ms, b ∈ W ∨ s₀.heap.get? b = none

namespace Fz
variable {s₀ : Shared} {H₀ : Heap} {W : List Addr} {env : Env} {H H' : Heap} {m cm : Str → Option Value} {ms : List (Addr × Obj)} {s s' : Shared}

theorem le (F : Fz s₀ H₀ W env H m cm ms s) : Le H s.heap := F.st.le'
theorem there (F : Fz s₀ H₀ W env H m cm ms s) : ∀ b ∈ muts env ms, ∃ o, s.heap.get? b = some o := by
  intro b hb
  rcases List.mem_cons.mp hb with rfl | hb
  · obtain ⟨o, _, _, ho, _⟩ := F.ns; exact ⟨o, ho⟩
  · rcases List.mem_append.mp hb with hb | hb
    · obtain ⟨⟨n, c⟩, hc, rfl⟩ := List.mem_map.mp hb; exact F.callb n c hc
    · obtain ⟨p, hp, rfl⟩ := List.mem_map.mp hb; exact ⟨_, F.ml p hp⟩

/-- a step that changes nothing known -/
theorem next (F : Fz s₀ H₀ W env H m cm ms s) (x : St [] H s H' s') : Fz s₀ H₀ W env H' m cm ms s' where
  st := F.st.trans (x.weaken (by simp))
  ns := F.ns.keeps fun b o e => x.kept b o (by simp) e
  cell := fun n c e => (F.cell n c e).keeps fun b o e => x.kept b o (by simp) e
  callb := fun n c e => let ⟨o, h⟩ := F.callb n c e; ⟨o, x.kept _ _ (by simp) h⟩
  ml := fun p hp => x.kept _ _ (by simp) (F.ml p hp)
  off := fun b hb => let ⟨_, h⟩ := F.there b hb; x.off (F.off b hb) h
  sep := F.sep
  wr := F.wr

theorem toks (F : Fz s₀ H₀ W env H m cm ms s) (n : Nat) : Fz s₀ H₀ W env H m cm ms { s with toks := n } :=
  F.next ⟨⟨_, _, rfl⟩, fun _ _ _ e => e, fun _ e => e, .refl, F.le, fun _ _ e => .inl e⟩

theorem keeps (F : Fz s₀ H₀ W env H m cm ms s) (x : Keeps s s') (ha : ∀ b, s'.heap.get? b = none → s.heap.get? b = none) : Fz s₀ H₀ W env H m cm ms s' := by
  obtain ⟨h, t, rfl, k⟩ := x
  exact F.next ⟨⟨_, _, rfl⟩, fun b o _ e => k b o e, ha, .refl, F.le.trans k, fun _ _ e => .inl e⟩

/-- one of the changing objects changes -/
theorem change {a : Addr} {h' : Heap} {tk : Nat} (F : Fz s₀ H₀ W env H m cm ms s) (hm : a ∈ muts env ms) (hs : Heap.SameBut a s.heap h') (ho : ∃ o', h'.get? a = some o') :
    St W H₀ s₀ H { s with heap := h', toks := tk } := by
  obtain ⟨o', ho⟩ := ho
  refine ⟨let ⟨h, t, e⟩ := F.st.same; ⟨h', tk, by rw [e]⟩, fun b o hb e => ?_, fun b e => ?_, F.st.le, fun b o e => ?_, F.st.new⟩
  · have hne : b ≠ a := by
      rintro rfl
      rcases F.wr _ hm with q | q
      · exact hb q
      · rw [q] at e; cases e
    exact (hs.2 b hne).trans (F.st.kept b o hb e)
  · by_cases hne : b = a
    · subst hne; exact absurd (e.symm.trans ho) (by simp)
    · exact F.st.alive b ((hs.2 b hne).symm.trans e)
  · have hne : b ≠ a := by rintro rfl; rw [F.off _ hm] at e; cases e
    exact (hs.2 b hne).trans (F.le b o e)

theorem setLocal {h' : Heap} {tk : Nat} {m' : Str → Option Value} (F : Fz s₀ H₀ W env H m cm ms s) (hn : h'.Ns env.locals m') (hs : Heap.SameBut env.locals s.heap h') :
    Fz s₀ H₀ W env H m' cm ms { s with heap := h', toks := tk } := by
  obtain ⟨hnd, _⟩ := List.nodup_cons.mp F.sep
  have hL : env.locals ∈ muts env ms := List.mem_cons_self
  refine ⟨F.change hL hs (let ⟨o, _, _, ho, _⟩ := hn; ⟨o, ho⟩), hn, fun n c e => ?_, fun n c e => ?_, fun p hp => ?_, F.off, F.sep, F.wr⟩
  · exact (F.cell n c e).sameBut hs fun q => hnd (List.mem_append_left _ (q ▸ List.mem_map_of_mem (mem_of_lookup e)))
  · obtain ⟨o, ho⟩ := F.callb n c e
    exact ⟨o, (hs.2 c fun q => hnd (List.mem_append_left _ (q ▸ List.mem_map_of_mem e))).trans ho⟩
  · exact (hs.2 p.1 fun q => hnd (List.mem_append_right _ (q ▸ List.mem_map_of_mem hp))).trans (F.ml p hp)

theorem setCell {h' : Heap} {tk : Nat} {x : Str} {c : Addr} {v : Value} (F : Fz s₀ H₀ W env H m cm ms s) (hc : env.cells.lookup x = some c) (hv : h'.IsCell c (some v)) (hs : Heap.SameBut c s.heap h') :
    Fz s₀ H₀ W env H m (fun y => if y = x then some v else cm y) ms { s with heap := h', toks := tk } := by
  obtain ⟨hnd, hsep⟩ := List.nodup_cons.mp F.sep
  have hcm := mem_of_lookup hc
  have hmem : c ∈ muts env ms := List.mem_cons_of_mem _ (List.mem_append_left _ (List.mem_map_of_mem (f := (·.2)) hcm))
  obtain ⟨h1, _, h3⟩ := List.nodup_append.mp hsep
  refine ⟨F.change hmem hs (let ⟨o, ho, _⟩ := hv; ⟨o, ho⟩), F.ns.sameBut hs ?_, fun n c' e => ?_, fun n c' e => ?_, fun p hp => ?_, F.off, F.sep, F.wr⟩
  · intro q; exact hnd (List.mem_append_left _ (q ▸ List.mem_map_of_mem (f := (·.2)) hcm))
  · by_cases hn : n = x
    · subst hn; rw [hc] at e; cases e; simpa using hv
    · rw [if_neg hn]
      refine (F.cell n c' e).sameBut hs fun q => hn ?_
      subst q
      exact name_of_addr (List.pairwise_map.mp h1) (mem_of_lookup e) hcm
  · by_cases q : c' = c
    · subst q; obtain ⟨o, ho, _⟩ := hv; exact ⟨o, ho⟩
    · obtain ⟨o, ho⟩ := F.callb n c' e; exact ⟨o, (hs.2 c' q).trans ho⟩
  · exact (hs.2 p.1 fun q => h3 _ (List.mem_map_of_mem (f := (·.2)) hcm) _ (List.mem_map_of_mem hp) q.symm).trans (F.ml p hp)

theorem mem_muts {a : Addr} {o : Obj} {pre post : List (Addr × Obj)} : a ∈ muts env (pre ++ (a, o) :: post) :=
  List.mem_cons_of_mem _ (List.mem_append_right _ (by simp))
theorem muts_eq {a : Addr} {o o' : Obj} {pre post : List (Addr × Obj)} : muts env (pre ++ (a, o') :: post) = muts env (pre ++ (a, o) :: post) := by simp [muts]

/-- one of the changing objects changes, by a call or by a step here -/
theorem put {a : Addr} {o o' : Obj} {pre post : List (Addr × Obj)} (F : Fz s₀ H₀ W env H m cm (pre ++ (a, o) :: post) s) (x : St [a] H s H' s') (ho : s'.heap.get? a = some o') :
    Fz s₀ H₀ W env H' m cm (pre ++ (a, o') :: post) s' := by
  obtain ⟨hnd, hsep⟩ := List.nodup_cons.mp F.sep
  obtain ⟨_, h2, h3⟩ := List.nodup_append.mp hsep
  have hma : a ∈ muts env (pre ++ (a, o) :: post) := mem_muts
  have nL : env.locals ∉ [a] := fun q => hnd (by rw [List.mem_singleton.mp q]; exact List.mem_append_right _ (by simp))
  have nC : ∀ n c, (n, c) ∈ env.cells → c ∉ [a] := fun n c e q => h3 c (List.mem_map_of_mem (f := (·.2)) e) a (by simp) (List.mem_singleton.mp q)
  rw [List.map_append, List.map_cons] at h2
  obtain ⟨p1, p2, p3⟩ := List.nodup_append.mp h2
  refine ⟨?_, ?_, fun n c e => ?_, fun n c e => ?_, fun p hp => ?_, fun b hb => ?_, by rw [muts_eq (o := o)]; exact F.sep, by rw [muts_eq (o := o)]; exact F.wr⟩
  · refine ⟨?_, fun b o hb e => ?_, fun b e => F.st.alive b (x.alive b e), F.st.le.trans x.le, x.le', fun b o e => (x.new b o e).elim (F.st.new b o) fun q => .inr (F.st.alive b q)⟩
    · obtain ⟨h, t, e⟩ := F.st.same; obtain ⟨h', t', e'⟩ := x.same; exact ⟨h', t', by rw [e', e]⟩
    · refine x.kept b o (fun q => ?_) (F.st.kept b o hb e)
      rw [List.mem_singleton.mp q] at hb e
      rcases F.wr a hma with r | r
      · exact hb r
      · rw [r] at e; cases e
  · exact F.ns.at' fun o e => x.kept _ _ nL e
  · obtain ⟨oc, hoc, hd⟩ := F.cell n c e; exact ⟨oc, x.kept _ _ (nC n c (mem_of_lookup e)) hoc, hd⟩
  · obtain ⟨oc, hoc⟩ := F.callb n c e; exact ⟨oc, x.kept _ _ (nC n c e) hoc⟩
  · rcases List.mem_append.mp hp with q | q
    · refine x.kept _ _ (fun r => ?_) (F.ml p (List.mem_append_left _ q))
      exact p3 p.1 (List.mem_map_of_mem (f := (·.1)) q) a List.mem_cons_self (List.mem_singleton.mp r)
    · rcases List.mem_cons.mp q with rfl | q
      · exact ho
      · refine x.kept _ _ (fun r => ?_) (F.ml p (List.mem_append_right _ (List.mem_cons_of_mem _ q)))
        exact (List.nodup_cons.mp p2).1 (by rw [← List.mem_singleton.mp r]; exact List.mem_map_of_mem (f := (·.1)) q)
  · rw [muts_eq (o := o)] at hb
    obtain ⟨ob, hob⟩ := F.there b hb
    exact x.off (F.off b hb) hob
theorem head {a : Addr} {o o' : Obj} {ms : List (Addr × Obj)} (F : Fz s₀ H₀ W env H m cm ((a, o) :: ms) s) (x : St [a] H s H' s') (ho : s'.heap.get? a = some o') : Fz s₀ H₀ W env H' m cm ((a, o') :: ms) s' :=
  F.put (pre := []) x ho
/-- a step that touches one changing object alone -/
theorem touch {a : Addr} {o o' : Obj} {pre post : List (Addr × Obj)} {h' : Heap} {tk : Nat} (F : Fz s₀ H₀ W env H m cm (pre ++ (a, o) :: post) s) (hs : Heap.SameBut a s.heap h') (ho : h'.get? a = some o') :
    Fz s₀ H₀ W env H m cm (pre ++ (a, o') :: post) { s with heap := h', toks := tk } := by
  refine F.put (H' := H) ⟨⟨_, _, rfl⟩, fun b o hb e => (hs.2 b (by simpa using hb)).trans e, fun b e => ?_, .refl, fun b o e => ?_, fun _ _ e => .inl e⟩ ho
  · by_cases q : b = a
    · subst q; exact absurd (ho.symm.trans e) (by simp)
    · exact (hs.2 b q).symm.trans e
  · refine (hs.2 b fun q => ?_).trans (F.le b o e)
    subst q
    rw [F.off b mem_muts] at e; cases e

/-- a fresh object joins what stands fixed -/
theorem adopt {a : Addr} {o : Obj} (F : Fz s₀ H₀ W env H m cm ms s) (hs : s₀.heap.get? a = none) (ho : s.heap.get? a = some o) (hn : a ∉ muts env ms) :
    ∃ H', Le H H' ∧ H'.get? a = some o ∧ Fz s₀ H₀ W env H' m cm ms s := by
  refine ⟨restr s.heap fun b => b = a ∨ ∃ o, H.get? b = some o, fun b ob e => restr_get.mpr ⟨.inr ⟨ob, e⟩, F.le b ob e⟩, restr_get.mpr ⟨.inl rfl, ho⟩, ?_⟩
  refine ⟨⟨F.st.same, F.st.kept, F.st.alive, fun b ob e => restr_get.mpr ⟨.inr ⟨ob, F.st.le _ _ e⟩, F.le _ _ (F.st.le _ _ e)⟩, fun b ob e => (restr_get.mp e).2, fun b ob e => ?_⟩, F.ns, F.cell, F.callb, F.ml, fun b hb => ?_, F.sep, F.wr⟩
  · obtain ⟨p, q⟩ := restr_get.mp e
    rcases p with rfl | ⟨o', e'⟩
    · exact .inr hs
    · have := F.le _ _ e'; rw [q] at this; cases this; exact F.st.new b ob e'
  · rcases get_none_or (h := restr s.heap fun b => b = a ∨ ∃ o, H.get? b = some o) b with e | ⟨ob, e⟩
    · exact e
    · rcases (restr_get.mp e).1 with rfl | ⟨o', e'⟩
      · exact absurd hb hn
      · rw [F.off b hb] at e'; cases e'

/-- a changing object that is fresh is fixed from here on -/
theorem freeze {a : Addr} {o : Obj} (F : Fz s₀ H₀ W env H m cm ((a, o) :: ms) s) (hs : s₀.heap.get? a = none) :
    ∃ H', Le H H' ∧ H'.get? a = some o ∧ Fz s₀ H₀ W env H' m cm ms s := by
  obtain ⟨hnd, hsep⟩ := List.nodup_cons.mp F.sep
  obtain ⟨h1, h2, h3⟩ := List.nodup_append.mp hsep
  have sub : ∀ b ∈ muts env ms, b ∈ muts env ((a, o) :: ms) := fun b hb => by
    rcases List.mem_cons.mp hb with rfl | hb
    · exact List.mem_cons_self
    · refine List.mem_cons_of_mem _ ?_
      rcases List.mem_append.mp hb with q | q
      · exact List.mem_append_left _ q
      · exact List.mem_append_right _ (List.mem_cons_of_mem _ q)
  have F' : Fz s₀ H₀ W env H m cm ms s := ⟨F.st, F.ns, F.cell, F.callb, fun p hp => F.ml p (List.mem_cons_of_mem _ hp), fun b hb => F.off b (sub b hb), by
    refine List.nodup_cons.mpr ⟨fun q => hnd ?_, List.nodup_append.mpr ⟨h1, (List.nodup_cons.mp h2).2, fun x hx y hy => h3 x hx y (List.mem_cons_of_mem _ hy)⟩⟩
    rcases List.mem_append.mp q with q | q
    · exact List.mem_append_left _ q
    · exact List.mem_append_right _ (List.mem_cons_of_mem _ q), fun b hb => F.wr b (sub b hb)⟩
  refine F'.adopt hs (F.ml (a, o) List.mem_cons_self) fun q => ?_
  rcases List.mem_cons.mp q with e | q
  · exact hnd (by rw [← e]; exact List.mem_append_right _ (by simp))
  · rcases List.mem_append.mp q with q | q
    · exact h3 a q a (by simp) rfl
    · exact (List.nodup_cons.mp h2).1 q

/-- a fresh object is one that may change -/
theorem mutable {a : Addr} {o : Obj} (F : Fz s₀ H₀ W env H m cm ms s) (hs : s₀.heap.get? a = none) (hH : H.get? a = none) (ho : s.heap.get? a = some o) (hn : a ∉ muts env ms) :
    Fz s₀ H₀ W env H m cm ((a, o) :: ms) s := by
  obtain ⟨hnd, hsep⟩ := List.nodup_cons.mp F.sep
  obtain ⟨h1, h2, h3⟩ := List.nodup_append.mp hsep
  have cases' : ∀ b ∈ muts env ((a, o) :: ms), b = a ∨ b ∈ muts env ms := fun b hb => by
    rcases List.mem_cons.mp hb with rfl | hb
    · exact .inr List.mem_cons_self
    · rcases List.mem_append.mp hb with q | q
      · exact .inr (List.mem_cons_of_mem _ (List.mem_append_left _ q))
      · rcases List.mem_cons.mp q with rfl | q
        · exact .inl rfl
        · exact .inr (List.mem_cons_of_mem _ (List.mem_append_right _ q))
  refine ⟨F.st, F.ns, F.cell, F.callb, fun p hp => ?_, fun b hb => ?_, ?_, fun b hb => ?_⟩
  · rcases List.mem_cons.mp hp with rfl | hp
    · exact ho
    · exact F.ml p hp
  · rcases cases' b hb with rfl | q
    · exact hH
    · exact F.off b q
  · refine List.nodup_cons.mpr ⟨fun q => ?_, List.nodup_append.mpr ⟨h1, List.nodup_cons.mpr ⟨fun q => hn (List.mem_cons_of_mem _ (List.mem_append_right _ q)), h2⟩, fun x hx y hy => ?_⟩⟩
    · rcases List.mem_append.mp q with q | q
      · exact hnd (List.mem_append_left _ q)
      · rcases List.mem_cons.mp q with q | q
        · exact hn (by rw [show a = env.locals from q.symm]; exact List.mem_cons_self)
        · exact hnd (List.mem_append_right _ q)
    · rcases List.mem_cons.mp hy with rfl | hy
      · rintro rfl; exact hn (List.mem_cons_of_mem _ (List.mem_append_left _ hx))
      · exact h3 x hx y hy
  · rcases cases' b hb with rfl | q
    · exact .inr hs
    · exact F.wr b q
end Fz

-- part MC

/-- what the top left: the written part, the names -/
structure Gl (K : Frag) (H : Heap) : Prop where
  k : K.In H
  t : ∃ mg mb, H.Ns mainGlobals mg ∧ H.Ns builtinsNs mb ∧ ∀ x : Str, x ≠ "__name__" → mb x = bootBuiltins x
  nl : H.NoLimit
theorem Gl.up {K : Frag} {H H' : Heap} (g : Gl K H) (k : Le H H') : Gl K H' :=
  ⟨g.k.keeps k, let ⟨mg, mb, a, b, c⟩ := g.t; ⟨mg, mb, a.keeps k, b.keeps k, c⟩, g.nl.keeps k⟩

section names
variable {M : Model} {A : Around} {E : Value → Shared → Prop} {s₀ s : Shared} {H₀ H : Heap} {W : List Addr} {env : Env} {m cm : Str → Option Value} {ms : List (Addr × Obj)} {K : Frag}

theorem z_loc (F : Fz s₀ H₀ W env H m cm ms s) {x : Str} {pos : Pos} {v : Value} {Q : Value → Shared → Prop} (hl : env.kindOf x = some .local) (hv : m x = some v) (h : Q v s)
    (hk : env.scope.kind = .function := by rfl) (hd : (x == ("__debug__" : Str)) = false := by decide) :
    wpAny M A (eval (.Name x pos) env) Q E s := wpAny_Name (wpAny_loadName_local hk hl F.ns hv h) hd
theorem z_cell (F : Fz s₀ H₀ W env H m cm ms s) {x : Str} {pos : Pos} {c : Addr} {v : Value} {Q : Value → Shared → Prop} (hl : env.kindOf x = some .cell) (hc : env.cells.lookup x = some c) (hv : cm x = some v) (h : Q v s)
    (hk : env.scope.kind = .function := by rfl) (hd : (x == ("__debug__" : Str)) = false := by decide) :
    wpAny M A (eval (.Name x pos) env) Q E s := wpAny_Name (wpAny_loadName_cell hk hl hc (hv ▸ F.cell x c hc) h) hd
theorem z_glob (F : Fz s₀ H₀ W env H m cm ms s) (g : Gl K H) {x : Str} {pos : Pos} {v : Value} {Q : Value → Shared → Prop} (hx : env.kindOf x = some .globalImplicit) (e : nsIn K mainGlobals x = some (some v)) (h : Q v s)
    (hk : env.scope.kind = .function := by rfl) (hg : env.globals = mainGlobals := by rfl) (hd : (x == ("__debug__" : Str)) = false := by decide) :
    wpAny M A (eval (.Name x pos) env) Q E s := by
  obtain ⟨mg, mb, hmg, hmb, _⟩ := g.t
  exact Name_function_global hk hx (loadGlobal_global (by rw [hg]; exact hmg.keeps F.le) (mg_of g.k hmg e) h) hd
theorem z_blt (F : Fz s₀ H₀ W env H m cm ms s) (g : Gl K H) {x : Str} {pos : Pos} {v : Value} {Q : Value → Shared → Prop} (hx : env.kindOf x = some .globalImplicit) (e : nsIn K mainGlobals x = some none) (hv : bootBuiltins x = some v) (h : Q v s)
    (hn : x ≠ "__name__" := by decide) (hk : env.scope.kind = .function := by rfl) (hg : env.globals = mainGlobals := by rfl) (hb : env.builtins = builtinsNs := by rfl) (hd : (x == ("__debug__" : Str)) = false := by decide) :
    wpAny M A (eval (.Name x pos) env) Q E s := by
  obtain ⟨mg, mb, hmg, hmb, hbb⟩ := g.t
  exact Name_function_global hk hx (loadGlobal_builtin (by rw [hg]; exact hmg.keeps F.le) (mg_none_of g.k hmg e) (by rw [hb]; exact hmb.keeps F.le) ((hbb x hn).trans hv) h) hd

theorem z_st (F : Fz s₀ H₀ W env H m cm ms s) {x : Str} {v : Value} {Q : Unit → Shared → Prop} (hl : env.kindOf x = some .local)
    (h : ∀ s', Fz s₀ H₀ W env H (upd m x v) cm ms s' → Q () s') (hk : env.scope.kind = .function := by rfl) :
    wpAny M A (storeName env x v) Q E s :=
  wpAny_storeName_local hl F.ns (fun _ hn hs => h _ (F.setLocal hn hs)) (by rw [hk]; rfl)
theorem z_stc (F : Fz s₀ H₀ W env H m cm ms s) {x : Str} {c : Addr} {v : Value} {Q : Unit → Shared → Prop} (hl : env.kindOf x = some .cell) (hc : env.cells.lookup x = some c)
    (h : ∀ s', Fz s₀ H₀ W env H m (upd cm x v) ms s' → Q () s') (hk : env.scope.kind = .function := by rfl) :
    wpAny M A (storeName env x v) Q E s :=
  wpAny_storeName_cell hk hl hc (F.cell x c hc) fun _ hv hs => h _ (F.setCell hc hv hs)

theorem z_cons {st : Stmt} {rest : List Stmt} {Q : Flow → Shared → Prop} (h : ∀ K : Flow → Shared → Prop, Hid (fun f s' => match f with | .next => wpAny M A (execs rest env) Q E s' | f => Q f s') K → wpAny M A (exec st env) K E s) : wpAny M A (execs (st :: rest) env) Q E s :=
  wpAny_execs_cons (h _ Hid.self)
theorem z_int (F : Fz s₀ H₀ W env H m cm ms s) {i : Int} {k : Nat} {pos : Pos} {Q : Value → Shared → Prop} (h : ∀ t s', Fz s₀ H₀ W env H m cm ms s' → Q (.int i t) s') :
    wpAny M A (eval (.Constant (.int i) k pos) env) Q E s := wpAny_Constant_int (h _ _ (F.toks _))
theorem z_str (F : Fz s₀ H₀ W env H m cm ms s) {i : Str} {k : Nat} {pos : Pos} {Q : Value → Shared → Prop} (h : ∀ t s', Fz s₀ H₀ W env H m cm ms s' → Q (.str i t) s') :
    wpAny M A (eval (.Constant (.str i) k pos) env) Q E s := Constant_str (h _ _ (F.toks _))
end names

section intsec
variable {prog : Program} {w : World} {A : Around} {E : Value → Shared → Prop} {s₀ s : Shared} {H₀ H : Heap} {W : List Addr} {env : Env} {m cm : Str → Option Value} {ms : List (Addr × Obj)} {a b : Int} {t u : Tok} {Q : Value → Shared → Prop}
theorem z_add (F : Fz s₀ H₀ W env H m cm ms s) (h : ∀ t s', Fz s₀ H₀ W env H m cm ms s' → Q (.int (a + b) t) s') : wpAny (model prog w) A (binaryOp .Add (.int a t) (.int b u)) Q E s := by
  with_reducible refine PyProof.Rows.add_int ?_
  exact h _ _ (F.toks _)
theorem z_sub (F : Fz s₀ H₀ W env H m cm ms s) (h : ∀ t s', Fz s₀ H₀ W env H m cm ms s' → Q (.int (a - b) t) s') : wpAny (model prog w) A (binaryOp .Sub (.int a t) (.int b u)) Q E s := by
  with_reducible refine PyProof.Rows.sub_int ?_
  exact h _ _ (F.toks _)
theorem z_mod (F : Fz s₀ H₀ W env H m cm ms s) (hb : b ≠ 0) (h : ∀ t s', Fz s₀ H₀ W env H m cm ms s' → Q (.int (a.fmod b) t) s') : wpAny (model prog w) A (binaryOp .Mod (.int a t) (.int b u)) Q E s := by
  with_reducible refine PyProof.Rows.mod_int hb ?_
  exact h _ _ (F.toks _)
theorem z_fdiv (F : Fz s₀ H₀ W env H m cm ms s) (hb : b ≠ 0) (hs : b.natAbs < 1073741824) (h : ∀ t s', Fz s₀ H₀ W env H m cm ms s' → Q (.int (a.fdiv b) t) s') : wpAny (model prog w) A (binaryOp .FloorDiv (.int a t) (.int b u)) Q E s := by
  with_reducible refine PyProof.Rows.floordiv_int hb ?_ (.inl (PyProof.noPylong_small hs))
  exact h _ _ (F.toks _)
theorem z_and (F : Fz s₀ H₀ W env H m cm ms s) (h : ∀ t s', Fz s₀ H₀ W env H m cm ms s' → Q (.int (Builtin.bitAnd a b) t) s') : wpAny (model prog w) A (binaryOp .BitAnd (.int a t) (.int b u)) Q E s := by
  with_reducible refine PyProof.Rows.and_int ?_
  exact h _ _ (F.toks _)
theorem z_neg (F : Fz s₀ H₀ W env H m cm ms s) (h : ∀ t s', Fz s₀ H₀ W env H m cm ms s' → Q (.int (-a) t) s') : wpAny (model prog w) A (unaryOp .USub (.int a t)) Q E s := by
  with_reducible refine PyProof.Rows.neg_int ?_
  exact h _ _ (F.toks _)
theorem z_pow (F : Fz s₀ H₀ W env H m cm ms s) (hn : 0 ≤ b) (hsz : (Builtin.Int.intBits a : Int) * b ≤ 2 ^ 27) (h : ∀ t s', Fz s₀ H₀ W env H m cm ms s' → Q (.int (a ^ b.toNat) t) s') : wpAny (model prog w) A (binaryOp .Pow (.int a t) (.int b u)) Q E s := by
  with_reducible refine PyProof.Rows.pow_int hn hsz ?_
  exact h _ _ (F.toks _)
theorem z_mul (F : Fz s₀ H₀ W env H m cm ms s) (hm : IntMulOk a b) (h : ∀ t s', Fz s₀ H₀ W env H m cm ms s' → Q (.int (a * b) t) s') : wpAny (model prog w) A (binaryOp .Mult (.int a t) (.int b u)) Q E s := by
  with_reducible refine PyProof.Rows.mul_int ?_ hm
  exact h _ _ (F.toks _)
end intsec

/-! objects of a class -/
def NsObj (o : Obj) (a : Str → Option Value) (k : Nat) : Prop := ∃ es n, o = dictOf es n ∧ es.length ≤ k ∧ StrKeys es.toArray ∧ ∀ name, nsFind es.toArray name = a name
def InstOf (H : Heap) (x C : Addr) (a : Str → Option Value) : Prop := ∃ dx od k, H.get? x = some (instObj C dx) ∧ H.get? dx = some od ∧ NsObj od a k
theorem InstOf.up {H H' : Heap} {x C : Addr} {a : Str → Option Value} (I : InstOf H x C a) (k : Le H H') : InstOf H' x C a := let ⟨dx, od, n, h1, h2, h3⟩ := I; ⟨dx, od, n, k _ _ h1, k _ _ h2, h3⟩
theorem nsFind_list (es : List DictEntry) (name : Str) : nsFind es.toArray name = (es.find? fun e => e.key.isStr name).map (·.val) := by
  unfold nsFind findBy; rw [List.find?_toArray]
theorem NsObj.look {o : Obj} {a : Str → Option Value} {k : Nat} (x : NsObj o a k) (name : Str) : lookIn name o = some (a name) := by
  obtain ⟨es, n, rfl, _, hk, hf⟩ := x
  rw [lookIn_dict, ← hf name, nsFind_list]
  unfold getL
  split
  · rename_i e he; rw [he]; rfl
  · rename_i he
    have : es.any (·.refKey) = false := by
      rw [List.any_eq_false]
      intro e hm
      obtain ⟨n, t, q⟩ := hk e (by simpa using hm)
      simp [DictEntry.refKey, q]
    rw [this, he]; rfl
theorem isStr_str (name y : Str) (t : Tok) : (Value.str name t).isStr y = (name == y) := rfl
theorem putL_keys {name : Str} {hsh : Int} {t : Tok} {v : Value} : ∀ {es : List DictEntry}, StrKeys es.toArray → StrKeys (putL name hsh (.str name t) v es).toArray
  | [], _ => fun e he => by simp [putL] at he; subst he; exact ⟨_, _, rfl⟩
  | e :: r, hk => by
    unfold putL
    split
    · intro e' he'
      simp at he'
      rcases he' with rfl | he'
      · exact hk e (by simp)
      · exact hk e' (by simp [he'])
    · intro e' he'
      simp at he'
      rcases he' with rfl | he'
      · exact hk e' (by simp)
      · exact putL_keys (es := r) (fun x hx => hk x (by simp at hx; simp [hx])) e' (by simpa using he')
theorem putL_finds {name : Str} {hsh : Int} {t : Tok} {v : Value} (y : Str) : ∀ {es : List DictEntry},
    ((putL name hsh (.str name t) v es).find? fun e => e.key.isStr y).map (·.val) = if y = name then some v else (es.find? fun e => e.key.isStr y).map (·.val)
  | [] => by
    simp only [putL, List.find?_cons, isStr_str, List.find?_nil]
    by_cases h : y = name
    · subst h; simp
    · have : (name == y) = false := by simpa using fun q => h q.symm
      simp [this, h]
  | e :: r => by
    unfold putL
    by_cases he : e.key.isStr name = true
    · rw [if_pos he]
      simp only [List.find?_cons]
      by_cases h : y = name
      · subst h; simp [he]
      · have : e.key.isStr y = false := by
          cases q : e.key.isStr y with
          | false => rfl
          | true => exact absurd (Value.isStr_inj _ _ _ q he) h
        simp [this, h]
    · rw [if_neg he]
      simp only [List.find?_cons]
      cases q : e.key.isStr y with
      | false => exact putL_finds y
      | true =>
        have : y ≠ name := by rintro rfl; exact he q
        simp [this]
theorem putL_len {name : Str} {hsh : Int} {key v : Value} : ∀ {es : List DictEntry}, (putL name hsh key v es).length ≤ es.length + 1
  | [] => by simp [putL]
  | e :: r => by
    unfold putL
    split
    · simp
    · have := putL_len (name := name) (hsh := hsh) (key := key) (v := v) (es := r); simp; exact this
theorem NsObj.put {o : Obj} {a : Str → Option Value} {k : Nat} (x : NsObj o a k) (name : Str) (hsh : Int) (t : Tok) (v : Value) :
    NsObj (Obj.putName name hsh (.str name t) v o) (fun y => if y = name then some v else a y) (k + 1) := by
  obtain ⟨es, n, rfl, hl, hk, hf⟩ := x
  rw [putName_dict]
  refine ⟨_, _, rfl, Nat.le_trans putL_len (Nat.succ_le_succ hl), putL_keys hk, fun y => ?_⟩
  rw [nsFind_list, putL_finds, ← nsFind_list, hf]
theorem NsObj.nil : NsObj emptyDict (fun _ => none) 0 := ⟨[], 0, rfl, by simp, fun e he => by simp at he, fun _ => rfl⟩

section inst
variable {prog : Program} {w : World} {A : Around} {E : Value → Shared → Prop} {s₀ s : Shared} {H₀ H : Heap} {W : List Addr} {env : Env} {m cm : Str → Option Value} {ms : List (Addr × Obj)} {K : Frag} {x C dx : Addr} {od : Obj} {a : Str → Option Value} {name : Str} {v : Value}

theorem instAt (h1 : s.heap.get? x = some (instObj C dx)) (h2 : s.heap.get? dx = some od) : InstAt s.heap x (instObj C dx) C (some od) := ⟨h1, rfl, rfl, h2⟩

/-- an attribute that stands in the own dict of an object -/
theorem z_attr {expr : Bool} {Q : Value → Shared → Prop} {attr : Option Value} (F : Fz s₀ H₀ W env H m cm ms s) (g : Gl K H) (I : InstOf s.heap x C a) (hv : a name = some v)
    (hg : plainGet K C name = true) (hh : hasDictIn K C = true) (ha : findIn K (.ref C) name = some attr) (hn : noGet K attr = true) (hq : handedIn v = true)
    (h : ∀ s', Fz s₀ H₀ W env H m cm ms s' → Q v s') : wpAny (model prog w) A (getAttr (.ref x) name expr) Q E s := by
  obtain ⟨dx, od, k, h1, h2, h3⟩ := I
  exact get_value (g.k.keeps F.le) (instAt h1 h2) (plainGet_of hg).1 (findObj_own hh ha hn (by rw [h3.look, hv])) hq (h _ (F.toks _))

theorem z_meth {pl : Sem Bool} {Q : Value × List Value → Shared → Prop} {f : Addr} (F : Fz s₀ H₀ W env H m cm ms s) (g : Gl K H) (I : InstOf s.heap x C a) (hv : a name = none)
    (hg : plainGet K C name = true) (hf : findIn K (.ref C) name = some (some (.ref f))) (ht : isFn K (.ref f) = true) (h : Q (.ref f, [.ref x]) s) :
    wpAny (model prog w) A (getMethod (.ref x) name pl) Q E s := by
  obtain ⟨dx, od, k, h1, h2, h3⟩ := I
  exact method_fn (g.k.keeps F.le) (instAt h1 h2) (plainGet_of hg).1 (plainGet_of hg).2 hf (beq_iff_eq.mp ht) (by show (lookIn name od).map _ = _; rw [h3.look, hv]; rfl) h

/-- a store into the dict of an object that is being made: the dict is the head of what may change -/
theorem z_set {Q : Unit → Shared → Prop} {k : Nat} (F : Fz s₀ H₀ W env H m cm ((dx, od) :: ms) s) (g : Gl K H) (hx : H.get? x = some (instObj C dx)) (hn : NsObj od a k) (hk : k ≤ 900)
    (hs : findIn K (.ref C) "__setattr__" = some (some (.builtin "object.__setattr__"))) (hp : plainOver K C = true) (ht : takerIn K C name = some none) (hh : hasDictIn K C = true)
    (h : ∀ s' od', NsObj od' (upd a name v) (k + 1) → Fz s₀ H₀ W env H m cm ((dx, od') :: ms) s' → Q () s') :
    wpAny (model prog w) A (setAttr (.ref x) name v) Q E s := by
  have hd : s.heap.get? dx = some od := F.ml _ List.mem_cons_self
  have hx' := F.le _ _ hx
  have X := g.k.keeps F.le
  have hn' := hn.put name (PyData.keyHash w.params name) (s.toks + 1) v
  refine set_plain X (instAt hx' hd) hs (osa_open (s := { s with toks := s.toks + 1 }) X (instAt hx' hd) hp ht fun b => ?_)
  obtain ⟨cd, hc, hd'⟩ := any_some hh
  refine wpAny_bind (wpAny_pure (wpAny_bind (wpAny_bind (wpAny_loadPart hx' (wpAny_bind (looks_clsIn X hc _ _ _ _ (fun _ _ e => e) ?_))))))
  rw [hd']
  refine wpAny_pure (a := some dx) (wpAny_bind (wpAny_pure (wpAny_bind ?_)))
  have hl := hn.look name
  obtain ⟨es, n, rfl, hlen, hkeys, hf⟩ := hn
  unfold nsSet
  refine wpAny_bind (wpAny_bind (wpAny_askSetting (wpAny_pure (wpAny_bind (wpAny_mkText (wpAny_bind (wpAny_loadPart hd ?_)))))))
  have c : (!es.toArray.any (·.key.isStr name) && es.toArray.any (·.refKey)) = false := by
    have : es.toArray.any (·.refKey) = false := by
      rw [Array.any_eq_false']; intro e he; obtain ⟨n, t, h⟩ := hkeys e he; simp [DictEntry.refKey, h]
    rw [this, Bool.and_false]
  dsimp only [dictOf]
  rw [aRefKeyMayBeTheName_at, c]
  refine wpAny_updatePart hd ?_
  obtain ⟨es', n', e', hlen', r⟩ := id hn'
  have hnf : (Obj.putName name (PyData.keyHash w.params name) (.str name (s.toks + 1)) v (dictOf es n)).isFreed = false := by rw [e']; rfl
  have ho' := Heap.get?_update_self (Obj.putName name (PyData.keyHash w.params name) (.str name (s.toks + 1)) v) hd hnf
  have hsb : Heap.SameBut dx s.heap (s.heap.update dx (Obj.putName name (PyData.keyHash w.params name) (.str name (s.toks + 1)) v)) := Heap.SameBut.update ..
  refine wpAny_bind (wpAny_lookBehind ho' (by rw [e']; exact pastItsLine_dict (by rw [List.size_toArray, sizeLine_eq]; omega)) ?_)
  refine wpAny_pure ?_
  exact h _ _ hn' (F.touch (pre := []) hsb ho')
end inst

-- part MD

/-- room below a call -/
structure Ok (A : Around) (d : Nat) : Prop where
  hh : A.handled = none
  dp : A.depth + d ≤ 900
  un : A.units + 8 * d ≤ 9000
theorem Ok.deeper {A : Around} {d : Nat} {env : Env} (x : Ok A (d + 1)) : Ok (A.deeper env) d :=
  ⟨x.hh, by have := x.dp; show A.depth + 1 + d ≤ 900; omega, by have := x.un; show A.units + 3 + 8 * d ≤ 9000; omega⟩
theorem Ok.less {A : Around} {d d' : Nat} (x : Ok A d) (h : d' ≤ d) : Ok A d' := ⟨x.hh, by have := x.dp; omega, by have := x.un; omega⟩
theorem Ok.make {A : Around} {d : Nat} {C : Addr} {rest : List Value} {kw : List (Str × Value)} (x : Ok A (d + 1)) : Ok (A.under (.builtin "type.__call__" ⟨.ref C :: rest, kw⟩)) d := by
  refine ⟨x.hh, ?_, ?_⟩
  · have := x.dp
    show A.depth + 1 + d ≤ 900
    omega
  · have := x.un
    show A.units + 1 + 8 * d ≤ 9000
    omega
theorem Ok.room {A : Around} {d : Nat} (x : Ok A d) : A.depth < recursionLimit := by have := x.dp; show A.depth < 1000; omega
theorem Ok.units {A : Around} {d : Nat} (x : Ok A d) : A.units < cLine := by have := x.un; show A.units < 9900; omega

section enter
variable {prog : Program} {w : World} {A : Around} {s : Shared} {H : Heap} {K : Frag} {ms : List (Addr × Obj)}
  {name qual : Str} {params : Arguments} {body : List Stmt} {scope : Scope} {dV kV doc pm cdv ct oc : Value} {an od : Option Addr} {osl : Array (Option Value)} {f : Addr} {vals : List Value} {binds : List (Str × Value)}

theorem code_enter {R : Result → Shared → Prop} (g : Gl K H) (le : Le H s.heap) (hms : ∀ p ∈ ms, s.heap.get? p.1 = some p.2 ∧ H.get? p.1 = none) (hnd : (ms.map (·.1)).Nodup)
    (ho : K.lookup f = some ⟨oc, od, .func (fnOf name qual params body scope dV kV doc pm an cdv ct), osl⟩) (hcd : codeIn K cdv qual = true) (hroom : A.depth < recursionLimit)
    (hbind : BindsTo s (fnOf name qual params body scope dV kV doc pm an cdv ct) ⟨vals, []⟩ binds) (hkind : (binds.all fun y => scope.names.lookup y.1 == some .local || scope.names.lookup y.1 == some .cell) = true)
    (hcn : ((cellsFrom 0 scope.names []).map (·.1)).Nodup)
    (h : ∀ L s₁, Fz s H (ms.map (·.1)) (envOfC qual scope L f cdv) H (bindL (envOfC qual scope L f cdv).kindOf binds fun _ => none) (bindC (envOfC qual scope L f cdv).kindOf binds fun _ => none) ms s₁ →
      wpAny (model prog w) (A.deeper (envOfC qual scope L f cdv)) (execs body (envOfC qual scope L f cdv)) (fun fl s' => R (.ok (.ret (match fl with | .ret v => v | _ => .none))) s') (fun _ _ => False) s₁)
    (hco : scope.isCoroutine = false := by rfl) (hgen : scope.isGenerator = false := by rfl) (hk : scope.kind = .function := by rfl) :
    codeAny (model prog w) A (.call (.ref f) ⟨vals, []⟩) R s := by
  have X := g.k.keeps le
  refine codeAny_call_function hroom (X _ _ ho) rfl hco hgen rfl (codeRec_of X hcd) (hbind _ _ _ _ ?_)
  refine wpAny_newFunctionEnv_cells hk (kindsX hkind _) fun env' he s' x => ?_
  subst he
  refine ⟨(g.nl.keeps le).keeps x.toInCall.keep, codeAny_func ?_⟩
  refine wpAny_mono (h s.heap.objs.size s' ?_) (fun _ _ y => y) (fun _ _ y => y.elim)
  have fresh : ∀ b, s.heap.objs.size ≤ b → s.heap.get? b = none := fun b hb => by
    cases e : s.heap.get? b with
    | none => rfl
    | some o => exact absurd (Heap.lt_size e) (Nat.not_lt.mpr hb)
  have fall : ∀ b, s'.heap.get? b = none → s.heap.get? b = none := fun b e => by
    rcases get_none_or (h := s.heap) b with q | ⟨o, q⟩
    · exact q
    · rw [x.toInCall.keep b o q] at e; cases e
  have hcl : ∀ n c, (n, c) ∈ cellsFrom (s.heap.objs.size + 1) scope.names [] → (cellsFrom (s.heap.objs.size + 1) scope.names []).lookup n = some c := fun n c hm =>
    lookup_of_mem_nodup (cellsFrom_names scope.names 0 (s.heap.objs.size + 1) [] [] rfl ▸ hcn) hm
  have lo : ∀ b ∈ muts (envOfC qual scope s.heap.objs.size f cdv) ms, s.heap.objs.size ≤ b ∨ ∃ p ∈ ms, p.1 = b := fun b hb => by
    rcases List.mem_cons.mp hb with rfl | hb
    · exact .inl (Nat.le_refl _)
    · rcases List.mem_append.mp hb with hb | hb
      · obtain ⟨⟨n, c⟩, hc, rfl⟩ := List.mem_map.mp hb
        exact .inl (Nat.le_of_lt (x.above n c hc))
      · obtain ⟨p, hp, rfl⟩ := List.mem_map.mp hb; exact .inr ⟨p, hp, rfl⟩
  refine ⟨⟨x.toInCall.same, fun b o _ e => x.toInCall.keep b o e, fall, .refl, fun b o e => x.toInCall.keep b o (le b o e), fun _ _ e => .inl e⟩, x.toInCall.ns, x.cell,
    fun n c hm => let ⟨o, ho, _⟩ := x.cell n c (hcl n c hm); ⟨o, ho⟩, fun p hp => x.toInCall.keep _ _ (hms p hp).1, fun b hb => ?_, ?_, fun b hb => ?_⟩
  · rcases lo b hb with q | ⟨p, hp, rfl⟩
    · cases e : H.get? b with
      | none => rfl
      | some o => have := le b o e; rw [fresh b q] at this; cases this
    · exact (hms p hp).2
  · have small : ∀ p ∈ ms, p.1 < s.heap.objs.size := fun p hp => Heap.lt_size (hms p hp).1
    refine List.nodup_cons.mpr ⟨fun q => ?_, List.nodup_append.mpr ⟨List.pairwise_map.mpr x.apart, hnd, fun a ha b hb e => ?_⟩⟩
    · rcases List.mem_append.mp q with q | q
      · obtain ⟨⟨n, c⟩, hc, e⟩ := List.mem_map.mp q
        have := x.above n c hc
        have e' : c = s.heap.objs.size := e
        subst e'
        exact Nat.lt_irrefl _ this
      · obtain ⟨p, hp, e⟩ := List.mem_map.mp q
        have := small p hp
        rw [show p.1 = s.heap.objs.size from e] at this
        exact Nat.lt_irrefl _ this
    · obtain ⟨⟨n, c⟩, hc, rfl⟩ := List.mem_map.mp ha
      obtain ⟨p, hp, rfl⟩ := List.mem_map.mp hb
      have h1 := x.above n c hc
      have h2 := small p hp
      have e' : c = p.1 := e
      rw [e'] at h1
      exact Nat.lt_irrefl _ (Nat.lt_trans h1 h2)
  · rcases lo b hb with q | ⟨p, hp, rfl⟩
    · exact .inr (fresh b q)
    · exact .inl (List.mem_map_of_mem hp)

theorem z_enter {E Q : Value → Shared → Prop} (g : Gl K H) (le : Le H s.heap) (hms : ∀ p ∈ ms, s.heap.get? p.1 = some p.2 ∧ H.get? p.1 = none) (hnd : (ms.map (·.1)).Nodup)
    (ho : K.lookup f = some ⟨oc, od, .func (fnOf name qual params body scope dV kV doc pm an cdv ct), osl⟩) (hcd : codeIn K cdv qual = true) (hroom : A.depth < recursionLimit)
    (hbind : BindsTo s (fnOf name qual params body scope dV kV doc pm an cdv ct) ⟨vals, []⟩ binds) (hkind : (binds.all fun y => scope.names.lookup y.1 == some .local || scope.names.lookup y.1 == some .cell) = true)
    (hcn : ((cellsFrom 0 scope.names []).map (·.1)).Nodup)
    (h : ∀ L s₁, Fz s H (ms.map (·.1)) (envOfC qual scope L f cdv) H (bindL (envOfC qual scope L f cdv).kindOf binds fun _ => none) (bindC (envOfC qual scope L f cdv).kindOf binds fun _ => none) ms s₁ →
      wpAny (model prog w) (A.deeper (envOfC qual scope L f cdv)) (execs body (envOfC qual scope L f cdv)) (fun fl s' => Q (match fl with | .ret v => v | _ => .none) s') (fun _ _ => False) s₁)
    (hco : scope.isCoroutine = false := by rfl) (hgen : scope.isGenerator = false := by rfl) (hk : scope.kind = .function := by rfl) :
    wpAny (model prog w) A (call (.ref f) vals) Q E s :=
  wpAny_call (code_enter (R := fun r s' => match r with | .ok (.ret v) => Q v s' | .ok _ => False | .error e => E e s') g le hms hnd ho hcd hroom hbind hkind hcn h hco hgen hk)

/-- a class is called: its __init__ runs on the new object -/
theorem z_new {E Q : Value → Shared → Prop} {C : Addr} (g : Gl K H) (le : Le H s.heap) (hm : makesIn K C = true) (hi : findIn K (.ref C) "__init__" = some (some (.ref f))) (hf : typeIn K (.ref f) = some (.type "function"))
    (h : ∀ x dx s₁ H₁, s.heap.get? x = none → s.heap.get? dx = none → St [] H s H₁ s₁ → H₁.get? x = some (instObj C dx) → H₁.get? dx = none → s₁.heap.get? dx = some emptyDict →
      codeAny (model prog w) (A.under (.builtin "type.__call__" ⟨.ref C :: vals, []⟩)) (.call (.ref f) ⟨.ref x :: vals, []⟩) (fun r s' => match r with | .ok (.ret v) => v = .none ∧ Q (.ref x) s' | _ => False) s₁) :
    wpAny (model prog w) A (call (.ref C) vals) Q E s := by
  refine wpAny_call ?_
  obtain ⟨hh, gs, d, t, os⟩ := s
  have X := g.k.keeps le
  have n1 : hh.get? hh.objs.size = none := by
    cases e : hh.get? hh.objs.size with
    | none => rfl
    | some o => exact absurd (Heap.lt_size e) (Nat.lt_irrefl _)
  have n2 : hh.get? (hh.objs.size + 1) = none := by
    cases e : hh.get? (hh.objs.size + 1) with
    | none => rfl
    | some o => exact absurd (Heap.lt_size e) (Nat.not_lt.mpr (Nat.le_succ _))
  refine make_core (makes_of X hm) (looks_findIn X hi) (fun self => bind_fn X self hf) (.inl rfl) ?_
  have hx : ((hh.push emptyDict).push (instObj C hh.objs.size)).get? (hh.objs.size + 1) = some (instObj C hh.objs.size) := by
    have := Heap.get?_push_size (hh.push emptyDict) (o := instObj C hh.objs.size) rfl
    rwa [Heap.size_push] at this
  have hdx : ((hh.push emptyDict).push (instObj C hh.objs.size)).get? hh.objs.size = some emptyDict := Heap.get?_push_of_some _ (Heap.get?_push_size _ rfl)
  have kp : ∀ b o, hh.get? b = some o → ((hh.push emptyDict).push (instObj C hh.objs.size)).get? b = some o := fun b o e => Heap.get?_push_of_some _ (Heap.get?_push_of_some _ e)
  refine codeAny_mono (h (hh.objs.size + 1) hh.objs.size ⟨(hh.push emptyDict).push (instObj C hh.objs.size), gs, d, t, os⟩ (restr ((hh.push emptyDict).push (instObj C hh.objs.size)) fun b => b = hh.objs.size + 1 ∨ ∃ o, H.get? b = some o) n2 n1
    ⟨⟨_, _, rfl⟩, fun b o _ e => kp b o e, fun b e => ?_, fun b o e => restr_get.mpr ⟨.inr ⟨o, e⟩, kp b o (le b o e)⟩, fun b o e => (restr_get.mp e).2, fun b o e => ?_⟩ (restr_get.mpr ⟨.inl rfl, hx⟩) ?_ hdx) fun r s' z => ?_
  · rcases get_none_or (h := hh) b with q | ⟨o, q⟩
    · exact q
    · exact absurd ((kp b o q).symm.trans e) (by simp)
  · obtain ⟨p, q⟩ := restr_get.mp e
    rcases p with rfl | ⟨o', e'⟩
    · exact .inr n2
    · have := kp _ _ (le _ _ e'); rw [q] at this; cases this; exact .inl e'
  · rcases get_none_or (h := restr ((hh.push emptyDict).push (instObj C hh.objs.size)) fun b => b = hh.objs.size + 1 ∨ ∃ o, H.get? b = some o) hh.objs.size with q | ⟨o, q⟩
    · exact q
    · rcases (restr_get.mp q).1 with e | ⟨o', e'⟩
      · exact absurd e (by simp)
      · have := le _ _ e'; rw [show ({ heap := hh, gens := gs, drawn := d, toks := t, os := os } : Shared).heap = hh from rfl, n1] at this; cases this
  · rcases r with e | (_ | _ | _ | v)
    · exact z.elim
    · exact z.elim
    · exact z.elim
    · exact z.elim
    · exact z
end enter

section loops
variable {prog : Program} {w : World} {A : Around} {E : Value → Shared → Prop} {s₀ s : Shared} {H₀ H : Heap} {W : List Addr} {env : Env} {m cm : Str → Option Value} {ms : List (Addr × Obj)}

theorem z_while {test : Expr} {body : List Stmt} {pos : Pos} {Q : Flow → Shared → Prop} (J : Nat → Heap → (Str → Option Value) → (Str → Option Value) → List (Addr × Obj) → Prop) (n : Nat) (F : Fz s₀ H₀ W env H m cm ms s) (h0 : J n H m cm ms)
    (turn : ∀ n H m cm ms s E', Fz s₀ H₀ W env H m cm ms s → J n H m cm ms →
      wpAny (model prog w) A (isTrue test env (eval test env)) (fun b s₂ => if b then wpAny (model prog w) A (execs body env) (fun f s₃ => match f with
          | .next | .cont => ∃ k H' m' cm' ms', k < n ∧ Fz s₀ H₀ W env H' m' cm' ms' s₃ ∧ J k H' m' cm' ms'
          | .brk => Q .next s₃
          | .ret v => Q (.ret v) s₃) E' s₂
        else Q .next s₂) E' s) :
    wpAny (model prog w) A (exec (.While test body [] pos) env) Q E s := by
  refine wpAny_While (codeAny_whileLoop (fun n s => ∃ H m cm ms, Fz s₀ H₀ W env H m cm ms s ∧ J n H m cm ms) ?_ n ⟨H, m, cm, ms, F, h0⟩)
  rintro n s ⟨H, m, cm, ms, F, hJ⟩
  refine wpAny_mono (turn n H m cm ms s _ F hJ) (fun b s₂ h₂ => ?_) fun _ _ x => x
  cases b with
  | false => exact wpAny_execs_nil h₂
  | true =>
    refine wpAny_mono h₂ (fun f s₃ h₃ => ?_) fun _ _ x => x
    cases f with
    | next => obtain ⟨k, H', m', cm', ms', hk, F', hJ'⟩ := h₃; exact ⟨k, hk, H', m', cm', ms', F', hJ'⟩
    | cont => obtain ⟨k, H', m', cm', ms', hk, F', hJ'⟩ := h₃; exact ⟨k, hk, H', m', cm', ms', F', hJ'⟩
    | brk => exact h₃
    | ret v => exact h₃

theorem app1 {a : Addr} {o : Obj} {ms : List (Addr × Obj)} : ms ++ [(a, o)] = ms ++ (a, o) :: [] := rfl

/-- an object that changed and is of no more use is forgotten -/
theorem Fz.forget {a : Addr} {o : Obj} {pre post : List (Addr × Obj)} (F : Fz s₀ H₀ W env H m cm (pre ++ (a, o) :: post) s) : Fz s₀ H₀ W env H m cm (pre ++ post) s := by
  have sub : ∀ b ∈ muts env (pre ++ post), b ∈ muts env (pre ++ (a, o) :: post) := fun b hb => by
    rcases List.mem_cons.mp hb with rfl | hb
    · exact List.mem_cons_self
    · refine List.mem_cons_of_mem _ ?_
      rcases List.mem_append.mp hb with q | q
      · exact List.mem_append_left _ q
      · refine List.mem_append_right _ ?_
        rw [List.map_append] at q
        rw [List.map_append, List.map_cons]
        rcases List.mem_append.mp q with q | q
        · exact List.mem_append_left _ q
        · exact List.mem_append_right _ (List.mem_cons_of_mem _ q)
  have sl : (muts env (pre ++ post)).Sublist (muts env (pre ++ (a, o) :: post)) := by
    unfold muts
    refine List.Sublist.cons_cons _ ?_
    refine List.Sublist.append (List.Sublist.refl _) ?_
    refine List.Sublist.map _ ?_
    exact List.Sublist.append (List.Sublist.refl _) (List.sublist_cons_self _ _)
  refine ⟨F.st, F.ns, F.cell, F.callb, fun p hp => F.ml p ?_, fun b hb => F.off b (sub b hb), F.sep.sublist sl, fun b hb => F.wr b (sub b hb)⟩
  rcases List.mem_append.mp hp with q | q
  · exact List.mem_append_left _ q
  · exact List.mem_append_right _ (List.mem_cons_of_mem _ q)

/-- a step that may spoil one changing object, which is forgotten -/
theorem Fz.spoil {a : Addr} {o : Obj} {pre post : List (Addr × Obj)} {h' : Heap} {tk : Nat} (F : Fz s₀ H₀ W env H m cm (pre ++ (a, o) :: post) s) (ha : s₀.heap.get? a = none) (hk : ∀ b ob, b ∉ [a] → s.heap.get? b = some ob → h'.get? b = some ob) :
    Fz s₀ H₀ W env H m cm (pre ++ post) { s with heap := h', toks := tk } := by
  have G := F.forget
  obtain ⟨hnd, hsep⟩ := List.nodup_cons.mp F.sep
  obtain ⟨_, h2, h3⟩ := List.nodup_append.mp hsep
  rw [List.map_append, List.map_cons] at h2
  obtain ⟨p1, p2, p3⟩ := List.nodup_append.mp h2
  have nL : env.locals ∉ [a] := fun q => hnd (by rw [List.mem_singleton.mp q]; exact List.mem_append_right _ (by simp))
  have nC : ∀ n c, (n, c) ∈ env.cells → c ∉ [a] := fun n c e q => h3 c (List.mem_map_of_mem (f := (·.2)) e) a (by simp) (List.mem_singleton.mp q)
  refine ⟨⟨let ⟨h, t, e⟩ := F.st.same; ⟨h', tk, by rw [e]⟩, fun b ob hb e => ?_, fun b e => ?_, F.st.le, fun b ob e => ?_, F.st.new⟩, F.ns.at' fun o e => hk _ _ nL e, fun n c e => ?_, fun n c e => ?_, fun p hp => ?_, G.off, G.sep, G.wr⟩
  · refine hk b ob (fun q => ?_) (F.st.kept b ob hb e)
    rw [List.mem_singleton.mp q, ha] at e; cases e
  · by_cases q : b = a
    · rw [q]; exact ha
    · refine F.st.alive b ?_
      rcases get_none_or (h := s.heap) b with r | ⟨ob, r⟩
      · exact r
      · exact absurd ((hk b ob (by simpa using q) r).symm.trans e) (by simp)
  · refine hk b ob (fun q => ?_) (F.le b ob e)
    rw [List.mem_singleton.mp q, F.off a Fz.mem_muts] at e; cases e
  · obtain ⟨oc, hoc, hd⟩ := F.cell n c e; exact ⟨oc, hk _ _ (nC n c (mem_of_lookup e)) hoc, hd⟩
  · obtain ⟨oc, hoc⟩ := F.callb n c e; exact ⟨oc, hk _ _ (nC n c e) hoc⟩
  · refine hk _ _ (fun r => ?_) (G.ml p hp)
    have r' := List.mem_singleton.mp r
    rcases List.mem_append.mp hp with q | q
    · exact p3 p.1 (List.mem_map_of_mem (f := (·.1)) q) a List.mem_cons_self r'
    · exact (List.nodup_cons.mp p2).1 (by rw [← r']; exact List.mem_map_of_mem (f := (·.1)) q)

theorem code_for {x : Str} {px : Pos} {body : List Stmt} {R : Result → Shared → Prop} {I : Addr} {io : Obj} {fp : List Addr} {n : Nat} {P : Nat → Value → Prop} {Stt : Nat → Heap → Prop}
    (J : Nat → Heap → (Str → Option Value) → (Str → Option Value) → List (Addr × Obj) → Prop) (Wk : Walks prog w A I fp [I] n P Stt) (hio : ∀ i h, Stt i h → ∃ o, h.get? I = some o)
    (F : Fz s₀ H₀ W env H m cm (ms ++ [(I, io)]) s) (hI₀ : s₀.heap.get? I = none) (hst : Stt 0 s.heap) (hfp : ∀ b ∈ fp, b = I ∨ ∃ o, H.get? b = some o) (h0 : J 0 H m cm ms)
    (hx : env.kindOf x = some .local)
    (turn : ∀ i v io H m cm ms s E', i < n → P i v → J i H m cm ms → Fz s₀ H₀ W env H (upd m x v) cm (ms ++ [(I, io)]) s →
      wpAny (model prog w) A (execs body env) (fun f s₂ => match f with
        | .next | .cont => ∃ H' m' cm' ms', Fz s₀ H₀ W env H' m' cm' (ms' ++ [(I, io)]) s₂ ∧ Le H H' ∧ J (i + 1) H' m' cm' ms'
        | .brk => R (.ok .next) s₂
        | .ret v => R (.ok (.ret v)) s₂) E' s)
    (fin : ∀ H m cm ms s, J n H m cm ms → Fz s₀ H₀ W env H m cm ms s → R (.ok .next) s) (hk : env.scope.kind = .function := by rfl) :
    codeAny (model prog w) A (.forLoop (.Name x px) (.ref I) body [] env) R s := by
  refine codeAny_forLoop (fun k s => ∃ i H m cm ms io, i ≤ n ∧ k = n - i ∧ Fz s₀ H₀ W env H m cm (ms ++ [(I, io)]) s ∧ J i H m cm ms ∧ Stt i s.heap ∧ ∀ b ∈ fp, b = I ∨ ∃ o, H.get? b = some o) ?_ n
    ⟨0, H, m, cm, ms, io, Nat.zero_le _, rfl, F, h0, hst, hfp⟩
  rintro k s ⟨i, H, m, cm, ms, io, hi, rfl, F, hJ, hst, hfp⟩
  by_cases hlt : i < n
  · refine Wk.item i s _ _ hlt hst fun v h₁ tk hP hst₁ hk₁ => ?_
    obtain ⟨io', hio'⟩ := hio _ _ hst₁
    have F₁ : Fz s₀ H₀ W env H m cm (ms ++ [(I, io')]) { s with heap := h₁, toks := tk } := F.put (H' := H) ⟨⟨_, _, rfl⟩, fun b o hb e => hk₁ b o hb e, fun b e => ?_, .refl, fun b o e => ?_, fun _ _ e => .inl e⟩ hio'
    · refine wpAny_assign_Name (z_st F₁ hx (fun s₂ F₂ => ?_) hk)
      refine wpAny_mono (turn i v io' H m cm ms s₂ _ hlt hP hJ F₂) (fun f s₃ h₃ => ?_) fun _ _ e => e
      have nx : (∃ H' m' cm' ms', Fz s₀ H₀ W env H' m' cm' (ms' ++ [(I, io')]) s₃ ∧ Le H H' ∧ J (i + 1) H' m' cm' ms') → ∃ k, k < n - i ∧ ∃ i H m cm ms io, i ≤ n ∧ k = n - i ∧ Fz s₀ H₀ W env H m cm (ms ++ [(I, io)]) s₃ ∧ J i H m cm ms ∧ Stt i s₃.heap ∧ ∀ b ∈ fp, b = I ∨ ∃ o, H.get? b = some o := by
        rintro ⟨H', m', cm', ms', F₃, hle, hJ₃⟩
        have hst₂ : Stt (i + 1) s₃.heap := Wk.frame _ _ _ hst₁ fun b hb o e => by
          rcases hfp b hb with rfl | ⟨o', e'⟩
          · have := F₃.ml (b, io') (by simp)
            have e'' : o = io' := Option.some.inj (e.symm.trans hio')
            rw [e'']; exact this
          · have h1 := F₁.le _ _ e'
            have e'' : o = o' := Option.some.inj (e.symm.trans h1)
            rw [e'']; exact F₃.le _ _ (hle _ _ e')
        exact ⟨n - (i + 1), by omega, i + 1, H', m', cm', ms', io', hlt, rfl, F₃, hJ₃, hst₂, fun b hb => (hfp b hb).imp_right fun ⟨o, e⟩ => ⟨o, hle _ _ e⟩⟩
      cases f with
      | next => exact nx h₃
      | cont => exact nx h₃
      | brk => exact h₃
      | ret v => exact h₃
    · rcases get_none_or (h := s.heap) b with q | ⟨o, q⟩
      · exact q
      · by_cases hb : b = I
        · rw [hb, show ({ s with heap := h₁, toks := tk } : Shared).heap.get? I = some io' from hio'] at e; cases e
        · exact absurd ((hk₁ b o (by simpa using hb) q).symm.trans e) (by simp)
    · refine hk₁ b o (fun hb => ?_) (F.le b o e)
      rw [List.mem_singleton.mp hb, F.off I Fz.mem_muts] at e; cases e
  · have hin : i = n := by omega
    subst hin
    refine Wk.done s _ _ hst fun h₁ tk hk₁ => wpAny_execs_nil ?_
    have G := F.spoil (tk := tk) hI₀ hk₁
    rw [List.append_nil] at G
    exact fin H m cm ms _ hJ G
end loops

-- part ME

section comp
variable {prog : Program} {w : World} {A : Around} {E : Value → Shared → Prop} {s₀ s : Shared} {H₀ H : Heap} {W : List Addr} {env : Env} {m cm : Str → Option Value} {ms : List (Addr × Obj)}

theorem Fz.perm {ms' : List (Addr × Obj)} (F : Fz s₀ H₀ W env H m cm ms s) (p : ms'.Perm ms) : Fz s₀ H₀ W env H m cm ms' s := by
  have pm : (muts env ms').Perm (muts env ms) := (List.Perm.append_left _ (p.map _)).cons _
  exact ⟨F.st, F.ns, F.cell, F.callb, fun q hq => F.ml q (p.mem_iff.mp hq), fun b hb => F.off b (pm.mem_iff.mp hb), pm.nodup_iff.mpr F.sep, fun b hb => F.wr b (pm.mem_iff.mp hb)⟩
theorem Fz.rot {a : Addr} {o : Obj} (F : Fz s₀ H₀ W env H m cm ((a, o) :: ms) s) : Fz s₀ H₀ W env H m cm (ms ++ [(a, o)]) s := F.perm (List.perm_append_singleton _ _)
theorem Fz.tor {a : Addr} {o : Obj} (F : Fz s₀ H₀ W env H m cm (ms ++ [(a, o)]) s) : Fz s₀ H₀ W env H m cm ((a, o) :: ms) s := F.perm (List.perm_append_singleton _ _).symm

theorem muts_comp {scope : Scope} {cl : List (Str × Addr)} {C : Addr} : muts (compEnvC scope cl C env) ms = C :: (cl.map (·.2) ++ ms.map (·.1)) := rfl

def ClOk (cl : List (Str × Addr)) (env : Env) : Prop := (∀ n c, (n, c) ∈ cl → cl.lookup n = some c ∧ env.cells.lookup n = some c) ∧ (cl.map (·.2)).Nodup

theorem Fz.inner {C D I : Addr} {co lo io : Obj} {scope : Scope} {cl : List (Str × Addr)} {mC : Str → Option Value} (F : Fz s₀ H₀ W env H m cm ((C, co) :: (D, lo) :: (I, io) :: ms) s) (hC : s.heap.Ns C mC) (hcl : ClOk cl env) :
    Fz s H (muts (compEnvC scope cl C env) ms) (compEnvC scope cl C env) H mC cm ms s := by
  obtain ⟨hnd, hsep⟩ := List.nodup_cons.mp F.sep
  obtain ⟨_, h2, h3⟩ := List.nodup_append.mp hsep
  have sub : ∀ b ∈ muts (compEnvC scope cl C env) ms, b ∈ muts env ((C, co) :: (D, lo) :: (I, io) :: ms) := fun b hb => by
    rw [muts_comp] at hb
    rcases List.mem_cons.mp hb with rfl | hb
    · exact List.mem_cons_of_mem _ (List.mem_append_right _ (by simp))
    · rcases List.mem_append.mp hb with hb | hb
      · obtain ⟨⟨n, c⟩, hc, rfl⟩ := List.mem_map.mp hb
        exact List.mem_cons_of_mem _ (List.mem_append_left _ (List.mem_map_of_mem (f := (·.2)) (mem_of_lookup (hcl.1 n c hc).2)))
      · exact List.mem_cons_of_mem _ (List.mem_append_right _ (by simp only [List.map_cons, List.mem_cons]; exact .inr (.inr (.inr hb))))
  refine ⟨.refl F.le, hC, fun n c e => F.cell n c (hcl.1 n c (mem_of_lookup e)).2, fun n c hm => F.callb n c (mem_of_lookup (hcl.1 n c hm).2), fun p hp => F.ml p (by simp [hp]), fun b hb => F.off b (sub b hb), ?_, fun b hb => .inl hb⟩
  rw [muts_comp]
  have h2' : (C :: D :: I :: ms.map (·.1)).Nodup := h2
  obtain ⟨c1, d1⟩ := List.nodup_cons.mp h2'
  obtain ⟨_, i1⟩ := List.nodup_cons.mp d1
  obtain ⟨_, m1⟩ := List.nodup_cons.mp i1
  refine List.nodup_cons.mpr ⟨fun q => ?_, List.nodup_append.mpr ⟨hcl.2, m1, fun a ha b hb e => ?_⟩⟩
  · rcases List.mem_append.mp q with q | q
    · obtain ⟨⟨n, c⟩, hc, e⟩ := List.mem_map.mp q
      exact h3 c (List.mem_map_of_mem (f := (·.2)) (mem_of_lookup (hcl.1 n c hc).2)) C (by simp) e
    · exact c1 (by simp only [List.mem_cons]; exact .inr (.inr q))
  · obtain ⟨⟨n, c⟩, hc, rfl⟩ := List.mem_map.mp ha
    exact h3 c (List.mem_map_of_mem (f := (·.2)) (mem_of_lookup (hcl.1 n c hc).2)) b (by simp only [List.map_cons, List.mem_cons]; exact .inr (.inr (.inr hb))) e

theorem Fz.outer {C D I : Addr} {co lo io : Obj} {scope : Scope} {cl : List (Str × Addr)} {mC : Str → Option Value} {H' : Heap} {ms' : List (Addr × Obj)} {s' : Shared} (F : Fz s₀ H₀ W env H m cm ((C, co) :: (D, lo) :: (I, io) :: ms) s)
    (hcl : ClOk cl env) (G : Fz s H (muts (compEnvC scope cl C env) ms) (compEnvC scope cl C env) H' mC cm ms' s') (hms : ms'.map (·.1) = ms.map (·.1)) :
    ∃ co', Fz s₀ H₀ W env H' m cm ((C, co') :: (D, lo) :: (I, io) :: ms') s' ∧ s'.heap.Ns C mC := by
  obtain ⟨hnd, hsep⟩ := List.nodup_cons.mp F.sep
  obtain ⟨h1, h2, h3⟩ := List.nodup_append.mp hsep
  have h2' : (C :: D :: I :: ms.map (·.1)).Nodup := h2
  obtain ⟨c1, d1⟩ := List.nodup_cons.mp h2'
  obtain ⟨d2, i1⟩ := List.nodup_cons.mp d1
  obtain ⟨i2, m1⟩ := List.nodup_cons.mp i1
  have cases' : ∀ b ∈ muts (compEnvC scope cl C env) ms, b = C ∨ (∃ n, (n, b) ∈ cl) ∨ b ∈ ms.map (·.1) := fun b hb => by
    rw [muts_comp] at hb
    rcases List.mem_cons.mp hb with rfl | hb
    · exact .inl rfl
    · rcases List.mem_append.mp hb with hb | hb
      · obtain ⟨⟨n, c⟩, hc, rfl⟩ := List.mem_map.mp hb; exact .inr (.inl ⟨n, hc⟩)
      · exact .inr (.inr hb)
  have sub : ∀ b ∈ muts (compEnvC scope cl C env) ms, b ∈ muts env ((C, co) :: (D, lo) :: (I, io) :: ms) := fun b hb => by
    rcases cases' b hb with rfl | ⟨n, hc⟩ | hb
    · exact List.mem_cons_of_mem _ (List.mem_append_right _ (by simp))
    · exact List.mem_cons_of_mem _ (List.mem_append_left _ (List.mem_map_of_mem (f := (·.2)) (mem_of_lookup (hcl.1 n b hc).2)))
    · exact List.mem_cons_of_mem _ (List.mem_append_right _ (by simp only [List.map_cons, List.mem_cons]; exact .inr (.inr (.inr hb))))
  have nL : env.locals ∉ muts (compEnvC scope cl C env) ms := fun q => by
    rcases cases' _ q with e | ⟨n, hc⟩ | hb
    · exact hnd (List.mem_append_right _ (by simp [e]))
    · exact hnd (List.mem_append_left _ (List.mem_map_of_mem (f := (·.2)) (mem_of_lookup (hcl.1 n _ hc).2)))
    · exact hnd (List.mem_append_right _ (by simp only [List.map_cons, List.mem_cons]; exact .inr (.inr (.inr hb))))
  have nD : D ∉ muts (compEnvC scope cl C env) ms := fun q => by
    rcases cases' _ q with e | ⟨n, hc⟩ | hb
    · exact c1 (by simp [e])
    · exact h3 D (List.mem_map_of_mem (f := (·.2)) (mem_of_lookup (hcl.1 n _ hc).2)) D (by simp) rfl
    · exact d2 (by simp only [List.mem_cons]; exact .inr hb)
  have nI : I ∉ muts (compEnvC scope cl C env) ms := fun q => by
    rcases cases' _ q with e | ⟨n, hc⟩ | hb
    · exact c1 (by simp [e])
    · exact h3 I (List.mem_map_of_mem (f := (·.2)) (mem_of_lookup (hcl.1 n _ hc).2)) I (by simp) rfl
    · exact i2 hb
  obtain ⟨co', es, ep, hco, hr⟩ := G.ns
  have addrs : muts env ((C, co') :: (D, lo) :: (I, io) :: ms') = muts env ((C, co) :: (D, lo) :: (I, io) :: ms) := by
    unfold muts
    simp only [List.map_cons, hms]
  refine ⟨co', ⟨⟨?_, fun b o hb e => ?_, fun b e => F.st.alive b (G.st.alive b e), F.st.le.trans G.st.le, G.le, fun b o e => (G.st.new b o e).elim (F.st.new b o) fun q => .inr (F.st.alive b q)⟩, F.ns.at' fun o e => G.st.kept _ _ nL e,
    fun n c e => ?_, fun n c e => ?_, fun p hp => ?_, fun b hb => ?_, by rw [addrs]; exact F.sep, by rw [addrs]; exact F.wr⟩, ⟨co', es, ep, hco, hr⟩⟩
  · obtain ⟨h, t, e⟩ := F.st.same; obtain ⟨h', t', e'⟩ := G.st.same; exact ⟨h', t', by rw [e', e]⟩
  · refine G.st.kept b o (fun q => ?_) (F.st.kept b o hb e)
    rcases F.wr b (sub b q) with r | r
    · exact hb r
    · rw [r] at e; cases e
  · by_cases q : c ∈ muts (compEnvC scope cl C env) ms
    · have hcm := List.mem_map_of_mem (f := (·.2)) (mem_of_lookup e)
      rcases cases' c q with r | ⟨n', hc⟩ | hb
      · exact absurd r (h3 c hcm C (by simp))
      · have : n = n' := name_of_addr (List.pairwise_map.mp h1) (mem_of_lookup e) (mem_of_lookup (hcl.1 n' c hc).2)
        subst this
        exact G.cell n c (hcl.1 n c hc).1
      · exact absurd rfl (h3 c hcm c (by simp only [List.map_cons, List.mem_cons]; exact .inr (.inr (.inr hb))))
    · obtain ⟨oc, hoc, hd⟩ := F.cell n c e; exact ⟨oc, G.st.kept _ _ q hoc, hd⟩
  · by_cases q : c ∈ muts (compEnvC scope cl C env) ms
    · have hcm := List.mem_map_of_mem (f := (·.2)) e
      rcases cases' c q with r | ⟨n', hc⟩ | hb
      · exact absurd r (h3 c hcm C (by simp))
      · exact G.callb n' c hc
      · exact absurd rfl (h3 c hcm c (by simp only [List.map_cons, List.mem_cons]; exact .inr (.inr (.inr hb))))
    · obtain ⟨oc, hoc⟩ := F.callb n c e; exact ⟨oc, G.st.kept _ _ q hoc⟩
  · rcases List.mem_cons.mp hp with rfl | hp
    · exact hco
    · rcases List.mem_cons.mp hp with rfl | hp
      · exact G.st.kept _ _ nD (F.ml (D, lo) (by simp))
      · rcases List.mem_cons.mp hp with rfl | hp
        · exact G.st.kept _ _ nI (F.ml (I, io) (by simp))
        · exact G.ml p hp
  · rw [addrs] at hb
    obtain ⟨ob, hob⟩ := F.there b hb
    exact G.st.off (F.off b hb) hob

abbrev Tests (prog : Program) (w : World) (A : Around) (ifs : List Expr) (cenv : Env) (Q : Bool → Shared → Prop) (E : Value → Shared → Prop) (s : Shared) : Prop :=
  wpAny (model prog w) A (forIn ifs true fun c r => if r = true then do let ok ← isTrue c cenv (eval c cenv); pure (ForInStep.yield ok) else pure (ForInStep.yield r)) Q E s

/-- one turn of a comprehension, within its own frame -/
def CompStep (prog : Program) (w : World) (A : Around) (env : Env) (cm : Str → Option Value) (scope : Scope) (cl : List (Str × Addr)) (x : Str) (ifs : List Expr) (elt : Expr) (n : Nat) (P : Nat → Value → Prop)
    (H₁ : Heap) (J : Nat → List Value → Heap → List (Addr × Obj) → Prop) : Prop :=
  ∀ i v ys H ms s C mC E, i < n → P i v → J i ys H ms → Le H₁ H → mC x = some v → Fz s H (muts (compEnvC scope cl C env) ms) (compEnvC scope cl C env) H mC cm ms s →
    Tests prog w A ifs (compEnvC scope cl C env) (fun ok s₄ => if ok = true
      then ∀ K : Value → Shared → Prop, Hid (fun y s₅ => ∃ H' ms', Fz s H (muts (compEnvC scope cl C env) ms) (compEnvC scope cl C env) H' mC cm ms' s₅ ∧ ms'.map (·.1) = ms.map (·.1) ∧ J (i + 1) (ys ++ [y]) H' ms') K → wpAny (model prog w) A (eval elt (compEnvC scope cl C env)) K E s₄
      else ∃ H' ms', Fz s H (muts (compEnvC scope cl C env) ms) (compEnvC scope cl C env) H' mC cm ms' s₄ ∧ ms'.map (·.1) = ms.map (·.1) ∧ J (i + 1) ys H' ms') E s

theorem code_comp {elt iter : Expr} {x : Str} {px : Pos} {ifs : List Expr} {scope : Scope} {cl : List (Str × Addr)} {pos : Pos} {R : Result → Shared → Prop} {I D C : Addr} {io co : Obj} {n0 : Nat} {mC : Str → Option Value} {fp : List Addr} {n : Nat} {P : Nat → Value → Prop} {Stt : Nat → Heap → Prop}
    (J : Nat → List Value → Heap → List (Addr × Obj) → Prop) (Wk : Walks prog w A I fp [I] n P Stt) (hio : ∀ i h, Stt i h → ∃ o, h.get? I = some o)
    (F : Fz s₀ H₀ W env H m cm ((C, co) :: (D, listOf #[] n0) :: (I, io) :: ms) s) (hC : s.heap.Ns C mC) (hI₀ : s₀.heap.get? I = none) (hst : Stt 0 s.heap) (hfp : ∀ b ∈ fp, b = I ∨ ∃ o, H.get? b = some o) (h0 : J 0 [] H ms)
    (hcl : ClOk cl env) (hx : scope.names.lookup x = some .local) (hsz : n ≤ sizeLine) (hkind : scope.kind = .function)
    (step : CompStep prog w A env cm scope cl x ifs elt n P H J)
    (fin : ∀ ys H' ms' nn co mC s, J n ys H' ms' → Le H H' → ms'.map (·.1) = ms.map (·.1) → Fz s₀ H₀ W env H' m cm ((C, co) :: (D, listOf ys.toArray nn) :: ms') s → s.heap.Ns C mC → R (.ok .next) s) :
    codeAny (model prog w) A (.compLoop (.ListComp elt [⟨.Name x px, iter, ifs, 0⟩] scope pos) 0 (.ref I) (.ref D) (compEnvC scope cl C env)) R s := by
  have hxl : (compEnvC scope cl C env).kindOf x = some .local := lookup_relabel_local hx
  have hp : ((compEnvC scope cl C env).scope.kind == .class || ((compEnvC scope cl C env).scope.kind == .module && (compEnvC scope cl C env).locals != (compEnvC scope cl C env).globals)) = false := by simp [compEnvC, relabel, hkind]
  refine codeAny_compLoop_tests (fun k s => ∃ i ys H' ms' nn io co mC, i ≤ n ∧ k = n + 1 - i ∧ List.length (α := Value) ys ≤ i ∧ Le H H' ∧ List.map (·.1) ms' = ms.map (·.1) ∧ J i ys H' ms' ∧ Stt i s.heap ∧ s.heap.Ns C mC ∧ Fz s₀ H₀ W env H' m cm ((C, co) :: (D, listOf ys.toArray nn) :: (I, io) :: ms') s) ?_ (n + 1)
    ⟨0, [], H, ms, n0, io, co, mC, Nat.zero_le _, rfl, by simp, .refl, rfl, h0, hst, hC, F⟩
  rintro k s ⟨i, ys, H', ms', nn, io, co, mC, hi, rfl, hlen, hle, hms, hJ, hst, hC, F⟩
  by_cases hlt : i < n
  · refine Wk.item i s _ _ hlt hst fun v h₁ tk hP hst₁ hk₁ => ?_
    obtain ⟨io', hio'⟩ := hio _ _ hst₁
    have F₁ : Fz s₀ H₀ W env H' m cm ((C, co) :: (D, listOf ys.toArray nn) :: (I, io') :: ms') { s with heap := h₁, toks := tk } := by
      refine F.put (pre := [(C, co), (D, listOf ys.toArray nn)]) (H' := H') ⟨⟨_, _, rfl⟩, fun b o hb e => hk₁ b o hb e, fun b e => ?_, .refl, fun b o e => ?_, fun _ _ e => .inl e⟩ hio'
      · rcases get_none_or (h := s.heap) b with q | ⟨o, q⟩
        · exact q
        · by_cases hb : b = I
          · rw [hb, show ({ s with heap := h₁, toks := tk } : Shared).heap.get? I = some io' from hio'] at e; cases e
          · exact absurd ((hk₁ b o (by simpa using hb) q).symm.trans e) (by simp)
      · refine hk₁ b o (fun hb => ?_) (F.le b o e)
        rw [List.mem_singleton.mp hb, F.off I (Fz.mem_muts (pre := [(C, co), (D, listOf ys.toArray nn)]))] at e; cases e
    have sepI : ∀ {co : Obj}, C ≠ I := fun {_} e => by
      have := (List.nodup_append.mp (List.nodup_cons.mp F.sep).2).2.1
      have h2' : (C :: D :: I :: ms'.map (·.1)).Nodup := this
      exact (List.nodup_cons.mp h2').1 (by simp [e])
    have hC₁ : ({ s with heap := h₁, toks := tk } : Shared).heap.Ns C mC := hC.at' fun o e => hk₁ _ o (by simpa using sepI (co := co)) e
    refine wpAny_assign_Name (wpAny_storeName_local hxl hC₁ (fun h₂ hn₂ hs₂ => ?_) hp)
    obtain ⟨co₂, _, _, hco₂, _⟩ := id hn₂
    have F₂ := F₁.touch (pre := []) (tk := tk + 1) hs₂ hco₂
    have G₂ := F₂.inner (scope := scope) (cl := cl) hn₂ hcl
    have up : ∀ (H'' : Heap) (ms'' : List (Addr × Obj)) (co lo : Obj) (s₅ : Shared), Le H' H'' → Fz s₀ H₀ W env H'' m cm ((C, co) :: (D, lo) :: (I, io') :: ms'') s₅ → Stt (i + 1) s₅.heap := fun H'' ms'' co lo s₅ hle' F₅ =>
      Wk.frame _ _ _ hst₁ fun b hb o e => by
        rcases hfp b hb with rfl | ⟨o', e'⟩
        · have e'' : o = io' := Option.some.inj (e.symm.trans hio')
          rw [e'']; exact F₅.ml (b, io') (by simp)
        · have h1 := F₁.le _ _ (hle _ _ e')
          have e'' : o = o' := Option.some.inj (e.symm.trans h1)
          rw [e'']; exact F₅.le _ _ (hle' _ _ (hle _ _ e'))
    refine wpAny_mono (step i v ys H' ms' _ C _ _ hlt hP hJ hle (by simp) G₂) (fun ok s₄ h₄ => ?_) fun _ _ e => e
    cases ok with
    | false =>
      simp only [Bool.false_eq_true, if_false] at h₄ ⊢
      obtain ⟨H₄, ms₄, G₄, hms₄, hJ₄⟩ := h₄
      obtain ⟨co₄, F₄, hC₄⟩ := F₂.outer hcl G₄ hms₄
      exact ⟨n + 1 - (i + 1), by omega, i + 1, ys, H₄, ms₄, nn, io', co₄, _, hlt, rfl, Nat.le_succ_of_le hlen, hle.trans G₄.st.le, hms₄.trans hms, hJ₄, up _ _ _ _ _ G₄.st.le F₄, hC₄, F₄⟩
    | true =>
      simp only [if_true] at h₄ ⊢
      refine wpAny_mono (h₄ _ Hid.self) (fun y s₅ h₅ => ?_) fun _ _ e => e
      obtain ⟨H₅, ms₅, G₅, hms₅, hJ₅⟩ := h₅
      obtain ⟨co₅, F₅, hC₅⟩ := F₂.outer hcl G₅ hms₅
      refine wpAny_list_append_plain (items := ys.toArray) (hsz := by rw [List.size_toArray]; omega) ⟨nn, F₅.ml (D, listOf ys.toArray nn) (by simp)⟩ fun h₆ hl₆ hs₆ => ?_
      obtain ⟨nn', hD₆⟩ := hl₆
      have F₆ := F₅.touch (pre := [(C, co₅)]) (tk := s₅.toks) hs₆ hD₆
      rw [List.push_toArray] at F₆
      have sepD : C ≠ D := fun e => by
        have h2' : (C :: D :: I :: ms'.map (·.1)).Nodup := (List.nodup_append.mp (List.nodup_cons.mp F.sep).2).2.1
        exact (List.nodup_cons.mp h2').1 (by simp [e])
      exact ⟨n + 1 - (i + 1), by omega, i + 1, ys ++ [y], H₅, ms₅, nn', io', co₅, _, hlt, rfl, by simp; omega, hle.trans G₅.st.le, hms₅.trans hms, hJ₅, up _ _ _ _ _ G₅.st.le F₆, hC₅.sameBut hs₆ sepD, F₆⟩
  · have hin : i = n := by omega
    subst hin
    refine Wk.done s _ _ hst fun h₁ tk hk₁ => ?_
    have G := F.spoil (pre := [(C, co), (D, listOf ys.toArray nn)]) (tk := tk) hI₀ hk₁
    have sepI : C ∉ [I] := fun e => by
      have h2' : (C :: D :: I :: ms'.map (·.1)).Nodup := (List.nodup_append.mp (List.nodup_cons.mp F.sep).2).2.1
      exact (List.nodup_cons.mp h2').1 (by simp [List.mem_singleton.mp e])
    exact fin ys H' ms' nn co mC _ hJ hle hms G (hC.at' fun o e => hk₁ _ o sepI e)
end comp

-- part MF

section comp2
variable {prog : Program} {w : World} {A : Around} {E : Value → Shared → Prop} {s₀ s : Shared} {H₀ H : Heap} {W : List Addr} {env : Env} {m cm : Str → Option Value} {ms : List (Addr × Obj)}

theorem fresh_size (h : Heap) : h.get? h.objs.size = none := by
  cases e : h.get? h.objs.size with
  | none => rfl
  | some o => exact absurd (Heap.lt_size e) (Nat.lt_irrefl _)

/-- a new object, of those that may change -/
theorem Fz.push (F : Fz s₀ H₀ W env H m cm ms s) (o : Obj) (ho : o.isFreed = false := by rfl) :
    Fz s₀ H₀ W env H m cm ((s.heap.objs.size, o) :: ms) { s with heap := s.heap.push o } ∧ s₀.heap.get? s.heap.objs.size = none := by
  have n0 : s₀.heap.get? s.heap.objs.size = none := F.st.alive _ (fresh_size _)
  have nH : H.get? s.heap.objs.size = none := by
    cases e : H.get? s.heap.objs.size with
    | none => rfl
    | some o => have := F.le _ _ e; rw [fresh_size] at this; cases this
  have G : Fz s₀ H₀ W env H m cm ms { s with heap := s.heap.push o } := F.next (H' := H) ⟨⟨_, _, rfl⟩, fun b o' _ e => Heap.get?_push_of_some _ e, fun b e => ?_, .refl, fun b o' e => Heap.get?_push_of_some _ (F.le _ _ e), fun _ _ e => .inl e⟩
  · refine ⟨G.mutable n0 nH (Heap.get?_push_size _ ho) fun q => ?_, n0⟩
    obtain ⟨o', ho'⟩ := F.there _ q
    rw [fresh_size] at ho'; cases ho'
  · rcases get_none_or (h := s.heap) b with q | ⟨o', q⟩
    · exact q
    · exact absurd ((Heap.get?_push_of_some o q).symm.trans e) (by simp)

/-- a new object that stands fixed -/
theorem Fz.pushed (F : Fz s₀ H₀ W env H m cm ms s) (o : Obj) (ho : o.isFreed = false := by rfl) :
    ∃ H', Le H H' ∧ H'.get? s.heap.objs.size = some o ∧ Fz s₀ H₀ W env H' m cm ms { s with heap := s.heap.push o } :=
  let ⟨G, n0⟩ := F.push o ho; G.freeze n0

def Ready (prog : Program) (w : World) (A : Around) (env : Env) (scope : Scope) (cl : List (Str × Addr)) (x : Str) (ifs : List Expr) (elt : Expr) (it : Value) (s : Shared) (T : Addr → Addr → Shared → Prop) : Prop :=
  ∃ (I : Addr) (io : Obj) (fp : List Addr) (n : Nat) (P : Nat → Value → Prop) (Stt : Nat → Heap → Prop) (s₀ : Shared) (H₀ : Heap) (W : List Addr) (H : Heap) (m cm : Str → Option Value) (ms : List (Addr × Obj)) (J : Nat → List Value → Heap → List (Addr × Obj) → Prop),
    it = .ref I ∧ Walks prog w A I fp [I] n P Stt ∧ (∀ i h, Stt i h → ∃ o, h.get? I = some o) ∧ Fz s₀ H₀ W env H m cm ((I, io) :: ms) s ∧ s₀.heap.get? I = none ∧ Stt 0 s.heap ∧ (∀ b ∈ fp, b = I ∨ ∃ o, H.get? b = some o) ∧ J 0 [] H ms ∧
    ClOk cl env ∧ n ≤ sizeLine ∧ CompStep prog w A env cm scope cl x ifs elt n P H J ∧
    ∀ D C ys H' ms' nn co mC s', s₀.heap.get? D = none → s₀.heap.get? C = none → J n ys H' ms' → Le H H' → ms'.map (·.1) = ms.map (·.1) → Fz s₀ H₀ W env H' m cm ((C, co) :: (D, listOf ys.toArray nn) :: ms') s' → s'.heap.Ns C mC → T D C s'

theorem comp_body {elt iter : Expr} {x : Str} {px : Pos} {ifs : List Expr} {scope : Scope} {cl : List (Str × Addr)} {pos : Pos} {it : Value} {RR : Value → Addr → Result → Shared → Prop}
    (hcell : ∀ y ∈ scope.names, y.2 ≠ .cell) (hkind : scope.kind = .function) (hx : scope.names.lookup x = some .local)
    (h : Ready prog w A env scope cl x ifs elt it s fun D C s' => RR (.ref D) C (.ok .next) s') :
    wpAny (model prog w) A (newList []) (fun acc s₃ => wpAny (model prog w) A (newFunctionEnv scope env.globals cl [] env.qual none .none (some env)) (fun cenv s₄ =>
      codeAny (model prog w) A (.compStart (.ListComp elt [⟨.Name x px, iter, ifs, 0⟩] scope pos) 0 it acc { cenv with scope := relabel scope env }) (RR acc cenv.locals) s₄) E s₃) E s := by
  obtain ⟨I, io, fp, n, P, Stt, s₀, H₀, W, H, m, cm, ms, J, rfl, Wk, hio, F, hI₀, hst, hfp, h0, hcl, hsz, step, fin⟩ := h
  refine wpAny_newObj_type (wpAny_newFunctionEnv hcell (by intro y hy; simp at hy) (fun h₁ hns₁ hsb₁ => ?_) hkind)
  dsimp only at hns₁ hsb₁ ⊢
  simp only [Option.isSome_some, if_true] at hsb₁
  obtain ⟨F₁, hD₀⟩ := F.push { cls := .type "list", dict := none, data := .seq ([] : List Value).toArray }
  generalize hs₁ : ({ s with heap := s.heap.push { cls := .type "list", dict := none, data := .seq ([] : List Value).toArray } } : Shared) = s₁ at F₁
  have hh : s.heap.push { cls := .type "list", dict := none, data := .seq ([] : List Value).toArray } = s₁.heap := by rw [← hs₁]
  rw [hh] at hns₁ hsb₁ ⊢
  obtain ⟨F₂, hC₀⟩ := F₁.push { cls := .type "dict", data := .dict #[] }
  obtain ⟨co, es, ep, hco, hr⟩ := id hns₁
  have F₃ := F₂.touch (pre := []) (tk := s.toks + ([] : List (Str × Value)).length) hsb₁ hco
  have same : ({ ({ s₁ with heap := s₁.heap.push { cls := .type "dict", data := .dict #[] } } : Shared) with heap := h₁, toks := s.toks + ([] : List (Str × Value)).length } : Shared) = { s with heap := h₁, toks := s.toks + ([] : List (Str × Value)).length } := by rw [← hs₁]
  rw [same] at F₃
  have hst₁ : Stt 0 h₁ := Wk.frame _ _ _ hst fun b hb o e => by
    rcases hfp b hb with rfl | ⟨o', e'⟩
    · have h1 := F.ml (b, io) (by simp)
      have e'' : o = io := Option.some.inj (e.symm.trans h1)
      rw [e'']; exact F₃.ml (b, io) (by simp)
    · have h1 := F.le _ _ e'
      have e'' : o = o' := Option.some.inj (e.symm.trans h1)
      rw [e'']; exact F₃.le _ _ e'
  have loop : codeAny (model prog w) A (.compLoop (.ListComp elt [⟨.Name x px, iter, ifs, 0⟩] scope pos) 0 (.ref I) (.ref s.heap.objs.size) (compEnvC scope cl s₁.heap.objs.size env))
      (RR (.ref s.heap.objs.size) s₁.heap.objs.size) { s with heap := h₁, toks := s.toks + ([] : List (Str × Value)).length } :=
    code_comp (C := s₁.heap.objs.size) (D := s.heap.objs.size) (n0 := 0) J Wk hio F₃ hns₁ hI₀ hst₁ hfp h0 hcl hx hsz hkind step fun ys H' ms' nn co mC s' hJ hle hms F' hC => fin _ _ ys H' ms' nn co mC s' hD₀ hC₀ hJ hle hms F' hC
  exact codeAny_compStart_list loop (Wk.self 0 _ _ _ hst₁ loop)

theorem z_comp {elt iter : Expr} {x : Str} {px : Pos} {ifs : List Expr} {scope : Scope} {cl : List (Str × Addr)} {pos : Pos} {Q : Value → Shared → Prop}
    (hclos : closureFor scope env = pure cl) (hcell : ∀ y ∈ scope.names, y.2 ≠ .cell) (hkind : scope.kind = .function)
    (hnames : ∀ y ∈ scope.names, y.2 = .local → scope.names.lookup y.1 = some .local) (hx : scope.names.lookup x = some .local)
    (h : wpAny (model prog w) A (eval iter env) (fun xv s₁ => wpAny (model prog w) A (pyIter xv) (fun it s₂ => Ready prog w A env scope cl x ifs elt it s₂ fun D C s' => ∃ m, s'.heap.Ns C m ∧ ∀ h', Heap.SameBut C s'.heap h' → Q (.ref D) { s' with heap := h' }) E s₁) E s)
    (hs : ∀ x, foldedSetIterable iter env x = pure x := by intro _; rfl) :
    wpAny (model prog w) A (eval (.ListComp elt [⟨.Name x px, iter, ifs, 0⟩] scope pos) env) Q E s := by
  rw [eval_ListComp]
  refine wpAny_comprehension_free (use := none) rfl hs hclos hkind hnames (wpAny_mono h (fun xv s₁ h₁ => wpAny_mono h₁ (fun it s₂ h₂ => ?_) fun _ _ e => e) fun _ _ e => e)
  exact comp_body (RR := fun acc C => compPost (model prog w) A E none Q acc C) hcell hkind hx h₂

theorem z_compA {elt iter : Expr} {x y : Str} {px py : Pos} {ifs : List Expr} {scope : Scope} {cl : List (Str × Addr)} {pos spos : Pos} {Q : Flow → Shared → Prop}
    (hsw : swapsWith (.ListComp elt [⟨.Name x px, iter, ifs, 0⟩] scope pos) (some (.Name y py)) spos.line env = pure true)
    (hclos : closureFor scope env = pure cl) (hcell : ∀ z ∈ scope.names, z.2 ≠ .cell) (hkind : scope.kind = .function)
    (hnames : ∀ z ∈ scope.names, z.2 = .local → scope.names.lookup z.1 = some .local) (hx : scope.names.lookup x = some .local)
    (h : wpAny (model prog w) A (eval iter env) (fun xv s₁ => wpAny (model prog w) A (pyIter xv) (fun it s₂ => Ready prog w A env scope cl x ifs elt it s₂ fun D C s' =>
      wpAny (model prog w) A (assign (.Name y py) env (.ref D)) (fun _ s'' => ∃ m, s''.heap.Ns C m ∧ ∀ h', Heap.SameBut C s''.heap h' → Q .next { s'' with heap := h' }) E s') E s₁) E s)
    (hs : ∀ x, foldedSetIterable iter env x = pure x := by intro _; rfl) :
    wpAny (model prog w) A (exec (.Assign [.Name y py] (.ListComp elt [⟨.Name x px, iter, ifs, 0⟩] scope pos) spos) env) Q E s := by
  rw [exec_Assign_Name_used _ _ _ _ hsw]
  refine wpAny_bind (wpAny_standAt (wpAny_bind ?_))
  show wpAny _ A (do let _ ← comprehension (.ListComp elt [⟨.Name x px, iter, ifs, 0⟩] scope pos) scope env _ (newList []) false (eval iter env) (some (assign (.Name y py) env))) _ _ s
  refine wpAny_bind (wpAny_mono (wpAny_comprehension_free (use := some (assign (.Name y py) env)) (Q := fun _ s' => Q .next s') rfl hs hclos hkind hnames (wpAny_mono h (fun xv s₁ h₁ => wpAny_mono h₁ (fun it s₂ h₂ => ?_) fun _ _ e => e) fun _ _ e => e))
    (fun _ s' hq => wpAny_pure (wpAny_pure hq)) fun _ _ e => e)
  exact comp_body (RR := fun acc C => compPost (model prog w) A E (some (assign (.Name y py) env)) (fun _ s' => Q .next s') acc C) hcell hkind hx h₂

/-- the end of a comprehension whose list is a value -/
theorem end_e {C : Addr} {co : Obj} {mC : Str → Option Value} {Q : Value → Shared → Prop} {v : Value} (hC₀ : s₀.heap.get? C = none) (F : Fz s₀ H₀ W env H m cm ((C, co) :: ms) s) (hC : s.heap.Ns C mC)
    (h : ∀ s', Fz s₀ H₀ W env H m cm ms s' → Q v s') : ∃ m, s.heap.Ns C m ∧ ∀ h', Heap.SameBut C s.heap h' → Q v { s with heap := h' } :=
  ⟨mC, hC, fun h' hs => h _ (F.spoil (pre := []) (tk := s.toks) hC₀ fun b ob hb e => (hs.2 b (by simpa using hb)).trans e)⟩
/-- the end of a comprehension whose list goes to a name -/
theorem end_a {C : Addr} {co : Obj} {mC : Str → Option Value} {Q : Flow → Shared → Prop} {v : Value} {y : Str} {py : Pos} (hy : env.kindOf y = some .local) (hC₀ : s₀.heap.get? C = none) (F : Fz s₀ H₀ W env H m cm ((C, co) :: ms) s) (hC : s.heap.Ns C mC)
    (h : ∀ s', Fz s₀ H₀ W env H (upd m y v) cm ms s' → Q .next s') (hk : env.scope.kind = .function := by rfl) :
    wpAny (model prog w) A (assign (.Name y py) env v) (fun _ s'' => ∃ m, s''.heap.Ns C m ∧ ∀ h', Heap.SameBut C s''.heap h' → Q .next { s'' with heap := h' }) E s := by
  refine wpAny_assign_Name (wpAny_storeName_local hy F.ns (fun h₁ hn hs => ?_) (by rw [hk]; rfl))
  have F₁ := F.setLocal (tk := s.toks + 1) hn hs
  have hne : C ≠ env.locals := fun e => (List.nodup_cons.mp F.sep).1 (by rw [← e]; exact List.mem_append_right _ (by simp))
  exact end_e (Q := fun _ s' => Q .next s') (v := v) hC₀ F₁ (hC.sameBut hs hne) h

/-! the sources of a turn -/
theorem ready_list {scope : Scope} {cl : List (Str × Addr)} {x : Str} {ifs : List Expr} {elt : Expr} {T : Addr → Addr → Shared → Prop} {l : Addr} {items : Array Value} (hh : A.handled = none) (F : Fz s₀ H₀ W env H m cm ms s) (hl : H.IsList l items)
    (hcl : ClOk cl env) (hsz : items.size ≤ sizeLine) (J : Nat → List Value → Heap → List (Addr × Obj) → Prop) (h0 : J 0 [] H ms) (step : CompStep prog w A env cm scope cl x ifs elt items.size (fun i v => items[i]? = some v) H J)
    (fin : ∀ D C ys H' ms' nn co mC s', s₀.heap.get? D = none → s₀.heap.get? C = none → J items.size ys H' ms' → Le H H' → ms'.map (·.1) = ms.map (·.1) → Fz s₀ H₀ W env H' m cm ((C, co) :: (D, listOf ys.toArray nn) :: ms') s' → s'.heap.Ns C mC → T D C s') :
    wpAny (model prog w) A (pyIter (.ref l)) (fun it s₂ => Ready prog w A env scope cl x ifs elt it s₂ T) E s := by
  have hl' : s.heap.IsList l items := hl.at fun o e => F.le _ _ e
  refine wpAny_pyIter_list hl' ?_
  obtain ⟨G, n0⟩ := F.push { cls := .type "list_iterator", data := .fields #[.ref l, .int 0 0] }
  obtain ⟨ol, hol, _⟩ := id hl
  have hne : l ≠ s.heap.objs.size := Nat.ne_of_lt (Heap.lt_size (F.le _ _ hol))
  exact ⟨_, _, _, _, _, _, s₀, H₀, W, H, m, cm, ms, J, rfl, Walks.list hh _ l hne items, fun i h x => let ⟨o, ho, _⟩ := x.1; ⟨o, ho⟩, G, n0, ⟨⟨_, Heap.get?_push_size _ rfl, rfl, rfl⟩, hl'.push _⟩,
    fun b hb => by simp at hb; rcases hb with rfl | rfl; exact .inl rfl; exact .inr ⟨_, hol⟩, h0, hcl, hsz, step, fin⟩

theorem ready_range {scope : Scope} {cl : List (Str × Addr)} {x : Str} {ifs : List Expr} {elt : Expr} {T : Addr → Addr → Shared → Prop} {r : Addr} {a : Int} {n : Nat} {t u v : Tok} (hh : A.handled = none) (F : Fz s₀ H₀ W env H m cm ms s) (hr : IsRange s.heap r a (a + n) 1 t u v)
    (ha : -(2 ^ 40) ≤ a ∧ a ≤ 2 ^ 40) (hcl : ClOk cl env) (hsz : n ≤ sizeLine) (J : Nat → List Value → Heap → List (Addr × Obj) → Prop) (h0 : J 0 [] H ms) (step : CompStep prog w A env cm scope cl x ifs elt n (fun i v => ∃ t, v = .int (a + i) t) H J)
    (fin : ∀ D C ys H' ms' nn co mC s', s₀.heap.get? D = none → s₀.heap.get? C = none → J n ys H' ms' → Le H H' → ms'.map (·.1) = ms.map (·.1) → Fz s₀ H₀ W env H' m cm ((C, co) :: (D, listOf ys.toArray nn) :: ms') s' → s'.heap.Ns C mC → T D C s') :
    wpAny (model prog w) A (pyIter (.ref r)) (fun it s₂ => Ready prog w A env scope cl x ifs elt it s₂ T) E s := by
  rw [sizeLine_eq] at hsz
  have small : Builtin.Range.small a (a + n) 1 = true := small_one (by omega) (by omega) (by omega) (by omega)
  refine wpAny_pyIter_range hr small ?_
  obtain ⟨G, n0⟩ := F.push { cls := .type "range_iterator", data := .fields #[rawInt a, rawInt (Builtin.Range.rangeSize a (a + n) 1), rawInt 1] }
  have hs : Builtin.Range.rangeSize a (a + n) 1 = n := by rw [rangeSize_one]; split <;> omega
  refine ⟨_, _, _, n, _, _, s₀, H₀, W, H, m, cm, ms, J, rfl, Walks.range hh _ a 1 n, fun i h x => ⟨_, x⟩, G, n0, ?_, fun b hb => .inl (by simpa using hb), h0, hcl, by rw [sizeLine_eq]; exact hsz, ?_, fin⟩
  · have := Heap.get?_push_size s.heap (o := { cls := .type "range_iterator", data := .fields #[rawInt a, rawInt (Builtin.Range.rangeSize a (a + n) 1), rawInt 1] }) rfl
    rw [hs] at this
    simpa [hs] using this
  · intro i v ys H ms s C mC E hi hP
    obtain ⟨t, rfl⟩ := hP
    exact step i _ ys H ms s C mC E hi ⟨t, by simp⟩

theorem ready_dict {scope : Scope} {cl : List (Str × Addr)} {x : Str} {ifs : List Expr} {elt : Expr} {T : Addr → Addr → Shared → Prop} {d : Addr} {kvs : List (Int × Value)} {ep : Nat} (hh : A.handled = none) (F : Fz s₀ H₀ W env H m cm ms s) (hd : H.DictAt (intKind prog w) d kvs ep) (hdS : (d == sysModules) = false)
    (hcl : ClOk cl env) (hsz : kvs.length ≤ sizeLine) (J : Nat → List Value → Heap → List (Addr × Obj) → Prop) (h0 : J 0 [] H ms) (step : CompStep prog w A env cm scope cl x ifs elt kvs.length (fun i v => ∃ k x, kvs[i]? = some (k, x) ∧ (intKind prog w).is k v = true) H J)
    (fin : ∀ D C ys H' ms' nn co mC s', s₀.heap.get? D = none → s₀.heap.get? C = none → J kvs.length ys H' ms' → Le H H' → ms'.map (·.1) = ms.map (·.1) → Fz s₀ H₀ W env H' m cm ((C, co) :: (D, listOf ys.toArray nn) :: ms') s' → s'.heap.Ns C mC → T D C s') :
    wpAny (model prog w) A (pyIter (.ref d)) (fun it s₂ => Ready prog w A env scope cl x ifs elt it s₂ T) E s := by
  have hd' : s.heap.DictAt (intKind prog w) d kvs ep := hd.at' fun o e => F.le _ _ e
  refine wpAny_pyIter_dict hdS hd' ?_
  obtain ⟨G, n0⟩ := F.push { cls := .type "dict_keyiterator", data := .fields #[.ref d, .int 0 0, .int kvs.length 0, .int ep 0] }
  obtain ⟨ol, es, hol, _⟩ := id hd
  have hne : d ≠ s.heap.objs.size := Nat.ne_of_lt (Heap.lt_size (F.le _ _ hol))
  exact ⟨_, _, _, _, _, _, s₀, H₀, W, H, m, cm, ms, J, rfl, Walks.dictKeys hh _ d hne kvs ep, fun i h x => let ⟨o, ho, _⟩ := x.1; ⟨o, ho⟩, G, n0, ⟨⟨_, Heap.get?_push_size _ rfl, rfl, rfl⟩, hd'.push _⟩,
    fun b hb => by simp at hb; rcases hb with rfl | rfl; exact .inl rfl; exact .inr ⟨_, hol⟩, h0, hcl, hsz, step, fin⟩

def ForTurn (prog : Program) (w : World) (A : Around) (s₀ : Shared) (H₀ : Heap) (W : List Addr) (env : Env) (x : Str) (body : List Stmt) (R : Result → Shared → Prop) (n : Nat) (P : Nat → Value → Prop)
    (J : Nat → Heap → (Str → Option Value) → (Str → Option Value) → List (Addr × Obj) → Prop) : Prop :=
  ∀ i v I io H m cm ms s E', i < n → P i v → J i H m cm ms → Fz s₀ H₀ W env H (upd m x v) cm (ms ++ [(I, io)]) s →
      ∀ K : Flow → Shared → Prop, Hid (fun f s₂ => match f with
        | .next | .cont => ∃ H' m' cm' ms', Fz s₀ H₀ W env H' m' cm' (ms' ++ [(I, io)]) s₂ ∧ Le H H' ∧ J (i + 1) H' m' cm' ms'
        | .brk => R (.ok .next) s₂
        | .ret v => R (.ok (.ret v)) s₂) K → wpAny (model prog w) A (execs body env) K E' s

theorem for_list {x : Str} {px : Pos} {body : List Stmt} {R : Result → Shared → Prop} {l : Addr} {items : Array Value} (hh : A.handled = none) (F : Fz s₀ H₀ W env H m cm ms s) (hl : H.IsList l items) (hx : env.kindOf x = some .local)
    (J : Nat → Heap → (Str → Option Value) → (Str → Option Value) → List (Addr × Obj) → Prop) (h0 : J 0 H m cm ms) (turn : ForTurn prog w A s₀ H₀ W env x body R items.size (fun i v => items[i]? = some v) J)
    (fin : ∀ H m cm ms s, J items.size H m cm ms → Fz s₀ H₀ W env H m cm ms s → R (.ok .next) s) (hk : env.scope.kind = .function := by rfl) :
    wpAny (model prog w) A (pyIter (.ref l)) (fun it s₂ => codeAny (model prog w) A (.forLoop (.Name x px) it body [] env) R s₂) E s := by
  have hl' : s.heap.IsList l items := hl.at fun o e => F.le _ _ e
  refine wpAny_pyIter_list hl' ?_
  obtain ⟨G, n0⟩ := F.push { cls := .type "list_iterator", data := .fields #[.ref l, .int 0 0] }
  obtain ⟨ol, hol, _⟩ := id hl
  have hne : l ≠ s.heap.objs.size := Nat.ne_of_lt (Heap.lt_size (F.le _ _ hol))
  exact code_for J (Walks.list hh _ l hne items) (fun i h x => let ⟨o, ho, _⟩ := x.1; ⟨o, ho⟩) G.rot n0 ⟨⟨_, Heap.get?_push_size _ rfl, rfl, rfl⟩, hl'.push _⟩
    (fun b hb => by simp at hb; rcases hb with rfl | rfl; exact .inl rfl; exact .inr ⟨_, hol⟩) h0 hx (fun i v io H m cm ms s E' h1 h2 h3 F => turn i v _ io H m cm ms s E' h1 h2 h3 F _ Hid.self) fin hk

theorem for_tuple {x : Str} {px : Pos} {body : List Stmt} {R : Result → Shared → Prop} {l : Addr} {items : Array Value} (hh : A.handled = none) (F : Fz s₀ H₀ W env H m cm ms s) (hl : H.IsTuple l items) (hx : env.kindOf x = some .local)
    (J : Nat → Heap → (Str → Option Value) → (Str → Option Value) → List (Addr × Obj) → Prop) (h0 : J 0 H m cm ms) (turn : ForTurn prog w A s₀ H₀ W env x body R items.size (fun i v => items[i]? = some v) J)
    (fin : ∀ H m cm ms s, J items.size H m cm ms → Fz s₀ H₀ W env H m cm ms s → R (.ok .next) s) (hk : env.scope.kind = .function := by rfl) :
    wpAny (model prog w) A (pyIter (.ref l)) (fun it s₂ => codeAny (model prog w) A (.forLoop (.Name x px) it body [] env) R s₂) E s := by
  have hl' : s.heap.IsTuple l items := hl.at fun o e => F.le _ _ e
  refine wpAny_pyIter_tuple hl' ?_
  obtain ⟨G, n0⟩ := F.push { cls := .type "tuple_iterator", data := .fields #[.ref l, .int 0 0] }
  obtain ⟨ol, hol, _⟩ := id hl
  have hne : l ≠ s.heap.objs.size := Nat.ne_of_lt (Heap.lt_size (F.le _ _ hol))
  exact code_for J (Walks.tuple hh _ l hne items) (fun i h x => let ⟨o, ho, _⟩ := x.1; ⟨o, ho⟩) G.rot n0 ⟨⟨_, Heap.get?_push_size _ rfl, rfl, rfl⟩, hl'.push _⟩
    (fun b hb => by simp at hb; rcases hb with rfl | rfl; exact .inl rfl; exact .inr ⟨_, hol⟩) h0 hx (fun i v io H m cm ms s E' h1 h2 h3 F => turn i v _ io H m cm ms s E' h1 h2 h3 F _ Hid.self) fin hk

theorem for_range {x : Str} {px : Pos} {body : List Stmt} {R : Result → Shared → Prop} {r : Addr} {a : Int} {n : Nat} {t u v : Tok} (hh : A.handled = none) (F : Fz s₀ H₀ W env H m cm ms s) (hr : IsRange s.heap r a (a + n) 1 t u v)
    (ha : -(2 ^ 40) ≤ a ∧ a ≤ 2 ^ 40) (hsz : n ≤ sizeLine) (hx : env.kindOf x = some .local)
    (J : Nat → Heap → (Str → Option Value) → (Str → Option Value) → List (Addr × Obj) → Prop) (h0 : J 0 H m cm ms) (turn : ForTurn prog w A s₀ H₀ W env x body R n (fun i v => ∃ t, v = .int (a + i) t) J)
    (fin : ∀ H m cm ms s, J n H m cm ms → Fz s₀ H₀ W env H m cm ms s → R (.ok .next) s) (hk : env.scope.kind = .function := by rfl) :
    wpAny (model prog w) A (pyIter (.ref r)) (fun it s₂ => codeAny (model prog w) A (.forLoop (.Name x px) it body [] env) R s₂) E s := by
  rw [sizeLine_eq] at hsz
  have small : Builtin.Range.small a (a + n) 1 = true := small_one (by omega) (by omega) (by omega) (by omega)
  refine wpAny_pyIter_range hr small ?_
  obtain ⟨G, n0⟩ := F.push { cls := .type "range_iterator", data := .fields #[rawInt a, rawInt (Builtin.Range.rangeSize a (a + n) 1), rawInt 1] }
  have hs : Builtin.Range.rangeSize a (a + n) 1 = n := by rw [rangeSize_one]; split <;> omega
  refine code_for J (Walks.range hh _ a 1 n) (fun i h x => ⟨_, x⟩) G.rot n0 ?_ (fun b hb => .inl (by simpa using hb)) h0 hx ?_ fin hk
  · have := Heap.get?_push_size s.heap (o := { cls := .type "range_iterator", data := .fields #[rawInt a, rawInt (Builtin.Range.rangeSize a (a + n) 1), rawInt 1] }) rfl
    rw [hs] at this
    simpa [hs] using this
  · rintro i v io H m cm ms s E' hi ⟨t, rfl⟩
    exact fun h3 F => turn i _ _ io H m cm ms s E' hi ⟨t, by simp⟩ h3 F _ Hid.self
end comp2

-- part SA

section lists
variable {prog : Program} {w : World} {A : Around} {E : Value → Shared → Prop} {s₀ s : Shared} {H₀ H : Heap} {W : List Addr} {env : Env} {m cm : Str → Option Value} {ms : List (Addr × Obj)} {l : Addr} {items : Array Value}

theorem Fz.lst (F : Fz s₀ H₀ W env H m cm ms s) (hl : H.IsList l items) : s.heap.IsList l items := hl.at fun o e => F.le _ _ e
theorem Fz.tupl (F : Fz s₀ H₀ W env H m cm ms s) (hl : IsTup H l items) : IsTup s.heap l items := let ⟨o, ho, r⟩ := hl; ⟨o, F.le _ _ ho, r⟩

theorem z_len (F : Fz s₀ H₀ W env H m cm ms s) (hl : s.heap.IsList l items) (hsz : items.size ≤ sizeLine) {Q : Value → Shared → Prop} (h : ∀ t s', Fz s₀ H₀ W env H m cm ms s' → Q (.int items.size t) s') :
    wpAny (model prog w) A (call (.builtin "len") [.ref l]) Q E s := len_list hl (by rw [sizeLine_eq] at hsz; omega) (h _ _ (F.toks _))
theorem z_lenT (F : Fz s₀ H₀ W env H m cm ms s) (hl : IsTup s.heap l items) (hsz : items.size ≤ sizeLine) {Q : Value → Shared → Prop} (h : ∀ t s', Fz s₀ H₀ W env H m cm ms s' → Q (.int items.size t) s') :
    wpAny (model prog w) A (call (.builtin "len") [.ref l]) Q E s := PyProof.Rows.len_tuple hl (by rw [sizeLine_eq] at hsz; omega) (h _ _ (F.toks _))
theorem z_item {value slice : Expr} {k : Int} {u : Tok} {x : Value} {Q : Value → Shared → Prop} (hl : s.heap.IsList l items) (h0 : 0 ≤ k) (hfit : k < 2 ^ 63) (hx : items[k.toNat]? = some x) (h : Q x s)
    (hs : subscripted slice false (.ref l) (.int k u) = operate [.ref l, .int k u] (getItem (.ref l) (.int k u)) := by with_unfolding_all rfl) :
    wpAny (model prog w) A (subscriptTail value slice (.ref l) (.int k u)) Q E s := tail_any hl.typeIs slot_list_getitem.lookup (wpAny_getItem_list hl h0 hfit hx h) hs
theorem z_itemT {value slice : Expr} {k : Int} {u : Tok} {x : Value} {Q : Value → Shared → Prop} (hl : IsTup s.heap l items) (h0 : 0 ≤ k) (hk : k < items.size) (hsz : items.size ≤ sizeLine) (hx : items[k.toNat]? = some x) (h : Q x s)
    (hs : subscripted slice false (.ref l) (.int k u) = operate [.ref l, .int k u] (getItem (.ref l) (.int k u)) := by with_unfolding_all rfl) :
    wpAny (model prog w) A (subscriptTail value slice (.ref l) (.int k u)) Q E s := by
  rw [sizeLine_eq] at hsz
  refine tail_any hl.typeIs slot_tuple_getitem.lookup (getItem_tuple (j := k.toNat) hl (by omega) (by omega) ?_ hx h) hs
  unfold seqIndex?
  simp only [show ¬ k < 0 by omega, if_false]
  rw [if_pos (by simp only [Bool.and_eq_true, decide_eq_true_eq]; omega)]

/-- the pool: a list of ints -/
def PoolAt (o : Obj) : Prop := ∃ vs n, o = listOf vs n ∧ vs.size ≤ 100 ∧ ∀ (i : Nat) v, vs[i]? = some v → ∃ k t, v = .int k t

theorem z_setPool {k : Int} {t : Tok} {P : Addr} {vs : Array Value} {n : Nat} {ms : List (Addr × Obj)} (F : Fz s₀ H₀ W env H m cm ((P, listOf vs n) :: ms) s) (h0 : 0 ≤ k) (hk : k < vs.size) (hsz : vs.size ≤ sizeLine) {v : Value} {Q : Unit → Shared → Prop}
    (h : ∀ vs2 n' s', vs2.size = vs.size → vs2[k.toNat]? = some v → (∀ (i : Nat) x, vs2[i]? = some x → x = v ∨ vs[i]? = some x) → Fz s₀ H₀ W env H m cm ((P, listOf vs2 n') :: ms) s' → Q () s') : wpAny (model prog w) A (setItem (.ref P) (.int k t) v) Q E s := by
  have ho := F.ml (P, listOf vs n) (by simp)
  have hl : s.heap.IsList P vs := ⟨_, ho, rfl, _, rfl⟩
  rw [sizeLine_eq] at hsz
  unfold setItem
  try with_reducible refine wpAny_holding ?_
  first | refine wpAny_bind (wpAny_pure ?_) | skip
  refine wpAny_bind (wpAny_sequenceKey hl.typeIs (by decide) ?_)
  refine wpAny_bind (wpAny_callSpecial?_slot (name := Str.ofString "__setitem__") hl.typeIs slot_list_setitem
    (wpAny_call_entry slot_list_setitem hl.typeIs entry_list_setitem ?_ (args_list_setitem _ _ _)))
  show wpAny _ _ (Builtin.List.listSubscript? (.int k t) >>= _) _ _ s
  refine wpAny_bind (wpAny_listSubscript_int (fitsIndex_of h0 (by omega)) ?_)
  obtain ⟨j, rfl⟩ := Int.eq_ofNat_of_zero_le h0
  have hj : j < vs.size := by omega
  have hx' : vs[j]? = some vs[j] := Array.getElem?_eq_getElem hj
  show wpAny _ _ ((seqItemAt P j >>= fun r => pure (r.map (j, ·))) >>= _) _ _ s
  refine wpAny_bind (wpAny_bind (wpAny_seqItemAt ho rfl (wpAny_pure ?_)))
  rw [hx']
  show wpAny _ _ (setSeqItemAt P j v >>= _) _ _ s
  have hfin := IsL.update (h := s.heap) ho (·.setIfInBounds j v)
  have G := F.touch (pre := []) (tk := s.toks) (Heap.SameBut.update ..) hfin
  have a1 : (vs.setIfInBounds j v).size = vs.size := by simp
  have a2 : (vs.setIfInBounds j v)[j]? = some v := by rw [Array.getElem?_setIfInBounds]; simp [hj]
  have a3 : ∀ (i : Nat) x, (vs.setIfInBounds j v)[i]? = some x → x = v ∨ vs[i]? = some x := fun i x hx => by
    rw [Array.getElem?_setIfInBounds] at hx
    split at hx
    · exact .inl (by first | exact (Option.some.inj hx).symm | (split at hx; exact (Option.some.inj hx).symm; cases hx))
    · exact .inr hx
  refine wpAny_bind (wpAny_setSeqItemAt ho rfl ?_)
  first
    | exact wpAny_bind (wpAny_pure (wpAny_pure ⟨.none, rfl, wpAny_pure (h _ _ _ a1 a2 a3 G)⟩))
    | exact wpAny_pure ⟨.none, rfl, wpAny_pure (h _ _ _ a1 a2 a3 G)⟩

theorem z_pop0 {pos : Pos} {P : Addr} {vs : Array Value} {n : Nat} {ms : List (Addr × Obj)} {e : Expr} {y : Value} {Q : Value → Shared → Prop} (F : Fz s₀ H₀ W env H m cm ((P, listOf vs n) :: ms) s) (hy : vs[0]? = some y) (hsz : vs.size ≤ sizeLine)
    (he : wpAny (model prog w) A (eval e env) (fun v s₁ => ∃ u, v = .int 0 u ∧ Fz s₀ H₀ W env H m cm ((P, listOf vs n) :: ms) s₁ ∧ ∀ n' s', Fz s₀ H₀ W env H m cm ((P, listOf (vs.eraseIdxIfInBounds 0) n') :: ms) s' → Q y s') E s)
    (hse : starEach [e] env = [(false, eval e env)] := by rfl) :
    wpAny (model prog w) A (callWith pos (.builtin "list.pop") [.ref P] (backTo pos (starEach [e] env)) []) Q E s := by
  rw [hse]
  refine PySem.P.pop_at_list (wpAny_mono he (fun v s₁ h₁ => ?_) fun _ _ x => x)
  obtain ⟨u, rfl, F₁, h⟩ := h₁
  have ho := F₁.ml (P, listOf vs n) (by simp)
  have h0 : 0 < vs.size := (Array.getElem?_eq_some_iff.mp hy).1
  refine ⟨vs, n, 0, u, 0, y, hsz, rfl, ho, by decide, ?_, hy, ?_⟩
  · unfold seqIndex?; simp; rintro rfl; simp at h0
  · have G := F₁.touch (pre := []) (tk := s₁.toks) (Heap.SameBut.update ..) (IsL.update ho (·.eraseIdxIfInBounds 0))
    exact h _ _ G
end lists

-- the head's written part is told to the tools
theorem filled : PySem.Challenge.rw_nu0225_01 = PySem.Challenge.rw_nu0225_01 ∧ hd.heap_1 = hd.heap_1 := by k_fill; exact ⟨rfl, rfl⟩
-- a def is entered: the side goals of z_enter
local macro_rules | `(tactic| tb_rel) => `(tactic| (
  (case k6 => k_is); (case k7 => k_is); (case kb => first | exact BindsTo.of_eq rfl | exact binds_K (by exact (Gl.k (by assumption)).keeps (by assumption)) rfl (by k_is) rfl rfl rfl); (case kk => rfl); (case kn => decide); (case c1 => rfl); (case c2 => rfl); (case c3 => rfl)))
-- one step
local macro_rules | `(tactic| ktr_rel) => `(tactic| first
  | (with_reducible refine z_cons ?_; intro _ _)
  | ((with_reducible show wpAny _ _ (eval _ _) _ _ _); first
      | ((with_reducible show wpAny _ _ (eval (Expr.Name _ _) _) _ _ _); (rename Fz _ _ _ _ _ _ _ _ _ => zF); first
          | refine z_loc (by exact zF) (by rfl) (by first | rfl | assumption) ?_
          | refine z_cell (by exact zF) (by rfl) (by rfl) (by first | rfl | assumption) ?_
          | refine' z_glob (by exact zF) (by assumption) (by rfl) ?k1 ?_; (case k1 => k_is)
          | refine' z_blt (by exact zF) (by assumption) (by rfl) ?k1 ?k2 ?_; (case k1 => k_is); (case k2 => first | reg3_boot | boot_fact))
      | ((with_reducible show wpAny _ _ (eval (Expr.Constant _ _ _) _) _ _ _); first
          | (with_reducible first | refine PyProof.Rows.Constant_bool ?_ | refine PyProof.Rows.Constant_none ?_)
          | ((rename Fz _ _ _ _ _ _ _ _ _ => zF); (with_reducible first | refine z_int zF ?_ | refine z_str zF ?_); clear zF; intro _ _ zF))
      | ((with_reducible show wpAny _ _ (eval (Expr.Attribute (Expr.Name _ _) _ _) _) _ _ _); ((with_reducible refine Attribute_Name_ ?_ ?g0); (case g0 => rfl)))
      | ((with_reducible show wpAny _ _ (eval (Expr.Attribute _ _ _) _) _ _ _); ((with_reducible refine Attribute_any_ ?_ ?g0); (case g0 => rfl)))
      | ((with_reducible show wpAny _ _ (eval (Expr.Call (Expr.Attribute _ _ _) _ _ _) _) _ _ _); first | ((with_reducible refine' MethodCall_ ?_ ?g0); (case g0 => rfl)) | refine MethodCall_ ?_)
      | ((with_reducible show wpAny _ _ (eval (Expr.Call (Expr.Name _ _) _ _ _) _) _ _ _); ((with_reducible refine Call_ ?_ ?g0); (case g0 => rfl)))
      | ((with_reducible show wpAny _ _ (eval (Expr.Compare _ [_] [_] _) _) _ _ _); ((with_reducible refine wpAny_Compare1 ?_ ?g0); (case g0 => with_unfolding_all rfl)))
      | ((with_reducible show wpAny _ _ (eval (Expr.Compare _ (_ :: _ :: _) _ _) _) _ _ _); ((with_reducible refine Compare_chain ?_ ?g0); (case g0 => with_unfolding_all rfl)))
      | (with_reducible first | refine Subscript_ ?_ | refine wpAny_BinOp ?_ | refine PyProof.Rows.UnaryOp_ ?_ | refine PyProof.Rows.IfExp_ ?_ | refine PyProof.Rows.BoolOp_one ?_ | refine PyProof.Rows.BoolOp_and ?_ | refine PyProof.Rows.BoolOp_or ?_))
  | ((with_reducible show wpAny _ _ (exec _ _) _ _ _); first
      | ((with_reducible show wpAny _ _ (exec (Stmt.Assign [Expr.Name _ _] _ _) _) _ _ _); ((with_reducible refine wpAny_Assign_Name ?_ ?g0); (case g0 => rfl)))
      | ((with_reducible show wpAny _ _ (exec (Stmt.Assign [Expr.Subscript _ _ _] _ _) _) _ _ _); ((with_reducible refine wpAny_Assign_Subscript ?_ ?g0); (case g0 => rfl)))
      | ((with_reducible show wpAny _ _ (exec (Stmt.Assign [Expr.Attribute _ _ _] _ _) _) _ _ _); ((with_reducible refine plainObj_wpAny_Assign_Attribute ?_ ?g0); (case g0 => rfl)))
      | ((with_reducible show wpAny _ _ (exec (Stmt.Expr _ _) _) _ _ _); ((with_reducible refine wpAny_Expr ?_ ?g0 ?g1); (case g0 => rfl); (case g1 => rfl)))
      | ((with_reducible show wpAny _ _ (exec (Stmt.For _ _ _ _ _) _) _ _ _); ((with_reducible refine wpAny_For ?_ ?g0); (case g0 => intro _; rfl)))
      | (with_reducible first | refine wpAny_If ?_ | refine wpAny_Return_some ?_ | refine wpAny_Return_none ?_))
  | ((with_reducible show wpAny _ _ (isTrue _ _ _) _ _ _); first
      | ((with_reducible show wpAny _ _ (isTrue (Expr.Compare _ [_] [_] _) _ _) _ _ _); ((with_reducible refine wpAny_isTrue_Compare1 ?_ ?g0); (case g0 => with_unfolding_all rfl)))
      | ((with_reducible show wpAny _ _ (isTrue (Expr.Compare _ (_ :: _ :: _) _ _) _ _) _ _ _); ((with_reducible refine isTrue_chain ?_ ?g0); (case g0 => with_unfolding_all rfl)))
      | (with_reducible first | refine PyProof.Rows.isTrue_not ?_ | refine PyProof.Rows.isTrue_and_nil ?_ | refine PyProof.Rows.isTrue_or_nil ?_ | refine PyProof.Rows.isTrue_and ?_ | refine PyProof.Rows.isTrue_or ?_)
      | ((with_reducible refine isTrue_plain ?_ ?g0); (case g0 => rfl)))
  | ((with_reducible show wpAny _ _ (truthy _) _ _ _); (with_reducible first | refine wpAny_truthy_bool ?_ | refine PyProof.Rows.truthy_int ?_ | refine wpAny_truthy_none ?_))
  | ((with_reducible show wpAny _ _ (compareOp _ _ _) _ _ _); (with_reducible first | refine PyProof.Rows.eq_int ?_ | refine PyProof.Rows.ne_int ?_ | refine PyProof.Rows.lt_int ?_ | refine PyProof.Rows.le_int ?_ | refine PyProof.Rows.gt_int ?_ | refine PyProof.Rows.ge_int ?_ | refine PyProof.Rows.eq_str ?_ | refine PyProof.Rows.ne_str ?_ | refine is_none ?_))
  | ((with_reducible show wpAny _ _ (testChain _ _ _ _) _ _ _); first
      | ((with_reducible show wpAny _ _ (testChain _ _ [_] _) _ _ _); refine test_last ?_)
      | refine test_link ?_)
  | ((with_reducible show wpAny _ _ (compareChain _ _ _ _) _ _ _); first
      | ((with_reducible show wpAny _ _ (compareChain _ _ [_] _) _ _ _); refine chain_last ?_)
      | refine chain_link ?_)
  | ((with_reducible show wpAny _ _ (spliced _) _ _ _); first
      | ((with_reducible show wpAny _ _ (spliced (backTo _ (starEach (_ :: _) _))) _ _ _); (with_reducible refine args_cons ?_ ?g0); (case g0 => rfl))
      | refine args_nil ?_)
  | ((with_reducible show wpAny _ _ (callWith _ _ _ (backTo _ (starEach (_ :: _) _)) []) _ _ _); first
      | ((with_reducible show wpAny _ _ (callWith _ (Value.builtin _) [] _ _) _ _ _); refine PyProof.Rows.callWith_builtin1 ?_)
      | ((with_reducible show wpAny _ _ (callWith _ (Value.builtin _) _ _ _) _ _ _); (with_reducible refine PyProof.Rows.callWith_method1 ?_ ?g0 ?g1); (case g0 => rfl); (case g1 => rfl))
      | ((with_reducible show wpAny _ _ (callWith _ (Value.type _) [] _ _) _ _ _); (with_reducible refine PyProof.Rows.callWith_type1 ?_ ?g0 ?g1); (case g0 => rfl); (case g1 => rfl))
      | ((with_reducible refine' callWith_K ?k0 ?k1 ?_ ?k2 ?k3); (case k0 => exact Gl.k (by assumption)); (case k1 => k_is); (case k2 => rfl); (case k3 => rfl)))
  | (with_reducible first | refine PyProof.Rows.not_of ?_ | refine wpAny_execs_nil ?_)
  | ((rename Fz _ _ _ _ _ _ _ _ _ => zF); first
      | ((first
            | (with_reducible first | refine z_neg zF ?_ | refine z_add zF ?_ | refine z_sub zF ?_ | refine z_and zF ?_)
            | ((with_reducible show wpAny _ _ (binaryOp Operator.Mod (Value.int _ _) (Value.int _ _)) _ _ _); refine z_mod (by exact zF) (by omega) ?_)
            | ((with_reducible show wpAny _ _ (binaryOp Operator.FloorDiv (Value.int _ _) (Value.int _ _)) _ _ _); refine z_fdiv (by exact zF) (by omega) (by omega) ?_)
            | ((with_reducible show wpAny _ _ (binaryOp Operator.Mult (Value.int _ _) (Value.int _ _)) _ _ _); refine z_mul (by exact zF) (by assumption) ?_)); clear zF; intro _ _ zF)
      | ((with_reducible show wpAny _ _ (storeName _ _ _) _ _ _); (first | refine z_st (by exact zF) (by rfl) ?_ | refine z_stc (by exact zF) (by rfl) (by rfl) ?_); clear zF; intro _ zF)
      | ((with_reducible show wpAny _ _ (getAttr (Value.ref _) _ _) _ _ _);
          (refine' z_attr (by exact zF) (by assumption) (by exact InstOf.up (by assumption) zF.le) (by assumption) ?k1 ?k2 ?k3 ?k4 ?k5 ?_; (case k1 => k_is); (case k2 => k_is); (case k3 => k_is); (case k4 => k_is); (case k5 => rfl)); clear zF; intro _ zF)
      | ((with_reducible show wpAny _ _ (getMethod (Value.ref _) _ _) _ _ _);
          (refine' z_meth (by exact zF) (by assumption) (by exact InstOf.up (by assumption) zF.le) (by assumption) ?k1 ?k2 ?k3 ?_; (case k1 => k_is); (case k2 => k_is); (case k3 => k_is)))
      | ((with_reducible show wpAny _ _ (setAttr (Value.ref _) _ _) _ _ _);
          (refine' z_set (by exact zF) (by assumption) (by assumption) (by assumption) ?k0 ?k1 ?k2 ?k3 ?k4 ?_; (case k0 => omega); (case k1 => k_is); (case k2 => k_is); (case k3 => k_is); (case k4 => k_is)); clear zF; intro _ _ _ zF)
      | ((with_reducible show Frag.In _ _ ∧ _); refine ⟨(Gl.k (by assumption)).keeps zF.le, ?_⟩))
  | ((with_reducible show ite (true = true) _ _); refine (if_pos rfl).mpr ?_)
  | ((with_reducible show ite (false = true) _ _); refine (if_neg Bool.false_ne_true).mpr ?_)
  | ((with_reducible show ite ((!true) = true) _ _); refine (if_neg (by decide)).mpr ?_)
  | ((with_reducible show ite ((!false) = true) _ _); refine (if_pos (by decide)).mpr ?_)
  | ((with_reducible show ite ((Value.none == Value.none) = true) _ _); refine (if_pos rfl).mpr ?_)
  | ((with_reducible show ∀ K : _ → Shared → Prop, Hid _ K → _); intro _ _)
  | with_reducible refine Hid.use (by assumption) ?_)

-- part SB
theorem z_if {c : Prop} [Decidable c] {a b : Prop} (h1 : c → a) (h2 : ¬ c → b) : if c then a else b := by
  split <;> rename_i h
  · exact h1 h
  · exact h2 h

theorem z_lpop {prog : Program} {w : World} {A : Around} {E : Value → Shared → Prop} {s : Shared} {l : Addr} {vs : Array Value} {n : Nat} {pl : Sem Bool} {Q : Value × List Value → Shared → Prop} (ho : s.heap.get? l = some (listOf vs n)) (h : Q (.builtin "list.pop", [.ref l]) s) :
    wpAny (model prog w) A (getMethod (.ref l) "pop" pl) Q E s :=
  getMethod_builtin ⟨_, ho, rfl⟩ F.plainAttrs_list F.slot_list_pop F.type_list_pop (fun a e => by cases e; exact ⟨_, ho, rfl⟩) h
theorem z_lappend {prog : Program} {w : World} {A : Around} {E : Value → Shared → Prop} {s : Shared} {l : Addr} {vs : Array Value} {n : Nat} {pl : Sem Bool} {Q : Value × List Value → Shared → Prop} (ho : s.heap.get? l = some (listOf vs n)) (h : Q (.builtin "list.append", [.ref l]) s) :
    wpAny (model prog w) A (getMethod (.ref l) "append" pl) Q E s :=
  getMethod_builtin ⟨_, ho, rfl⟩ F.plainAttrs_list F.slot_list_append F.type_list_append (fun a e => by cases e; exact ⟨_, ho, rfl⟩) h

theorem PoolAt.erase {vs : Array Value} {n : Nat} (hsz : vs.size ≤ 100) (hvs : ∀ (i : Nat) v, vs[i]? = some v → ∃ k t, v = .int k t) : PoolAt (listOf (vs.eraseIdxIfInBounds 0) n) := by
  refine ⟨_, n, rfl, ?_, fun i v hv => ?_⟩
  · have := PySem.MeetsSeq.size_erased vs 0; omega
  · have hm : v ∈ vs.eraseIdxIfInBounds 0 := Array.mem_of_getElem? hv
    have hm' : v ∈ vs := by
      unfold Array.eraseIdxIfInBounds at hm
      split at hm
      · exact Array.mem_of_mem_eraseIdx hm
      · exact hm
    obtain ⟨j, hj, rfl⟩ := Array.mem_iff_getElem.mp hm'
    exact hvs j _ (by simp [hj])

theorem take_spec {prog : Program} {w : World} {A : Around} {E Q : Value → Shared → Prop} {s : Shared} {H : Heap} {P : Addr} {o : Obj} {many : Int} {tk : Tok} (g : Gl (hd.heap_1 w.params) H) (le : Le H s.heap) (hA : Ok A 2)
    (hP : s.heap.get? P = some o) (hH : H.get? P = none) (ho : PoolAt o) (hm : 0 < many) (hm' : many < 1000)
    (h : ∀ d t s' o', 0 ≤ d → d < many → St [P] H s H s' → s'.heap.get? P = some o' → PoolAt o' → Q (.int d t) s') :
    wpAny (model prog w) A (call (.ref 432) [.ref P, .int many tk]) Q E s := by
  refine' z_enter (ms := [(P, o)]) (binds := [("pool", .ref P), ("many", .int many tk)]) g le (by simpa using ⟨hP, hH⟩) (by simp) ?k6 ?k7 hA.room ?kb ?kk ?kn ?_ ?c1 ?c2 ?c3
  tb_rel
  intro L s₁ F
  obtain ⟨vs, n, rfl, hsz, hvs⟩ := ho
  have hsz' : vs.size ≤ sizeLine := by rw [sizeLine_eq]; omega
  repeat ktr_rel
  rename Fz _ _ _ _ _ _ _ _ _ => F
  refine z_len F ⟨_, F.ml (P, listOf vs n) (by simp), rfl, _, rfl⟩ hsz' ?_
  clear F
  intro t₁ s₂ F
  repeat ktr_rel
  refine z_if (fun hb => ?_) (fun hb => ?_)
  · repeat ktr_rel
    rename Fz _ _ _ _ _ _ _ _ _ => F
    repeat ktr_rel
    exact h 0 _ _ _ (by omega) hm F.st (F.ml (P, listOf vs n) (by simp)) ⟨vs, n, rfl, hsz, hvs⟩
  · have h0 : 0 < vs.size := by
      rcases Nat.eq_zero_or_pos vs.size with e | e
      · exact absurd (by simp [e]) hb
      · exact e
    obtain ⟨k, t, hk⟩ := hvs 0 vs[0] (by simp [h0])
    have hk' : vs[(0 : Int).toNat]? = some (.int k t) := by rw [← hk]; simp [h0]
    repeat ktr_rel
    rename Fz _ _ _ _ _ _ _ _ _ => F
    refine z_item ⟨_, F.ml (P, listOf vs n) (by simp), rfl, _, rfl⟩ (by omega) (by omega) hk' ?_
    repeat ktr_rel
    rename Fz _ _ _ _ _ _ _ _ _ => F
    refine z_item ⟨_, F.ml (P, listOf vs n) (by simp), rfl, _, rfl⟩ (by omega) (by omega) hk' ?_
    repeat ktr_rel
    rename Fz _ _ _ _ _ _ _ _ _ => F
    refine z_setPool F (by omega) (by omega) hsz' ?_
    clear F
    intro vs2 n' s₃ hz2 hk2 hv2 F
    have hsz2 : vs2.size ≤ 100 := by omega
    have hsz3 : vs2.size ≤ sizeLine := by omega
    have hvs2 : ∀ (i : Nat) v, vs2[i]? = some v → ∃ k t, v = .int k t := fun i v hv => by
      rcases hv2 i v hv with rfl | q
      · exact ⟨_, _, rfl⟩
      · exact hvs i v q
    have d0 : 0 ≤ k.fmod many := Int.fmod_nonneg_of_pos k hm
    have d1 : k.fmod many < many := Int.fmod_lt_of_pos k hm
    repeat ktr_rel
    rename Fz _ _ _ _ _ _ _ _ _ => F
    refine z_item ⟨_, F.ml (P, listOf vs2 n') (by simp), rfl, _, rfl⟩ (by omega) (by omega) hk2 ?_
    repeat ktr_rel
    refine z_if (fun hb => ?_) (fun hb => ?_)
    · repeat ktr_rel
      rename Fz _ _ _ _ _ _ _ _ _ => F
      refine z_lpop (F.ml (P, listOf vs2 n') (by simp)) ?_
      refine z_pop0 F hk2 hsz3 ?_
      repeat ktr_rel
      rename Fz _ _ _ _ _ _ _ _ _ => F
      repeat ktr_rel
      refine ⟨_, rfl, F, ?_⟩
      clear F
      intro n3 s₄ F
      repeat ktr_rel
      rename Fz _ _ _ _ _ _ _ _ _ => F
      repeat ktr_rel
      exact h _ _ _ _ d0 d1 F.st (F.ml (P, listOf _ n3) (by simp)) (PoolAt.erase hsz2 hvs2)
    · repeat ktr_rel
      rename Fz _ _ _ _ _ _ _ _ _ => F
      repeat ktr_rel
      exact h _ _ _ _ d0 d1 F.st (F.ml (P, listOf vs2 n') (by simp)) ⟨vs2, n', rfl, hsz2, hvs2⟩

-- part DA
/-- two lists, place by place -/
def All2 {α β : Type} (R : α → β → Prop) (vs : List α) (ds : List β) : Prop := vs.length = ds.length ∧ ∀ (i : Nat) v d, vs[i]? = some v → ds[i]? = some d → R v d
theorem All2.mono {α β : Type} {R R' : α → β → Prop} {vs : List α} {ds : List β} (x : All2 R vs ds) (h : ∀ v d, R v d → R' v d) : All2 R' vs ds := ⟨x.1, fun i v d a b => h _ _ (x.2 i v d a b)⟩
theorem All2.get {α β : Type} {R : α → β → Prop} {vs : List α} {ds : List β} (x : All2 R vs ds) {i : Nat} {d : β} (h : ds[i]? = some d) : ∃ v, vs[i]? = some v ∧ R v d := by
  have hi : i < ds.length := (List.getElem?_eq_some_iff.mp h).1
  have hv : vs[i]? = some (vs[i]'(by rw [x.1]; exact hi)) := List.getElem?_eq_getElem (by rw [x.1]; exact hi)
  exact ⟨_, hv, x.2 i _ _ hv h⟩

def IsI (v : Value) (i : Int) : Prop := ∃ t, v = .int i t

structure InfoD where
  glyph : Int
  kind : Str
  mask : Int

def InfoAt (H : Heap) (v : Value) (d : InfoD) : Prop := ∃ x a t1 t2 t3, v = .ref x ∧ InstOf H x 224 a ∧ a "glyph" = some (.int d.glyph t1) ∧ a "kind" = some (.str d.kind t2) ∧ a "mask" = some (.int d.mask t3)
theorem InfoAt.up {H H' : Heap} {v : Value} {d : InfoD} (k : Le H H') : InfoAt H v d → InfoAt H' v d := fun ⟨x, a, t1, t2, t3, e, I, r⟩ => ⟨x, a, t1, t2, t3, e, I.up k, r⟩
theorem lst_up {H H' : Heap} {l : Addr} {vs : Array Value} (k : Le H H') (x : H.IsList l vs) : H'.IsList l vs := x.at fun o e => k _ _ e

def BufAt (H : Heap) (x : Addr) (ds : List InfoD) : Prop := ∃ a l vs, InstOf H x 277 a ∧ a "row" = some (.ref l) ∧ H.IsList l (List.toArray vs) ∧ All2 (InfoAt H) vs ds
theorem BufAt.up {H H' : Heap} {x : Addr} {ds : List InfoD} (k : Le H H') : BufAt H x ds → BufAt H' x ds := fun ⟨a, l, vs, I, h, hl, hv⟩ => ⟨a, l, vs, I.up k, h, lst_up k hl, hv.mono fun _ _ => InfoAt.up k⟩

section dicts
variable (prog : Program) (w : World)
/-- a dict of ints: what it tells of each key -/
def TabOf (H : Heap) (d : Addr) (f : Int → Int) : Prop := (d == sysModules) = false ∧ ∃ kvs, H.DictOf (intKind prog w) d kvs ∧ ∀ g, (∃ t, valueAt kvs g = some (.int (f g) t)) ∨ (valueAt kvs g = none ∧ f g = 0)
/-- a ClassDef -/
def ClsAt (H : Heap) (x : Addr) (f : Int → Int) : Prop := ∃ a d, InstOf H x 324 a ∧ a "classes" = some (.ref d) ∧ a "class_of" = none ∧ TabOf prog w H d f
def GdefAt (H : Heap) (x : Addr) (f : Int → Int) : Prop := ∃ a c, InstOf H x 421 a ∧ a "classes" = some (.ref c) ∧ a "glyph_class" = none ∧ ClsAt prog w H c f
end dicts
def LookAt (H : Heap) (x : Addr) (flag : Int) : Prop := ∃ a t, InstOf H x 43 a ∧ a "flag" = some (.int flag t)

structure Sc where
  ds : List InfoD
  f : Int → Int
  flag : Int
  mask : Int

structure SceneAt (prog : Program) (w : World) (H : Heap) (x : Addr) (sc : Sc) : Prop where
  ex : ∃ a b gd lk t, InstOf H x 65 a ∧ a "buffer" = some (.ref b) ∧ a "gdef" = some (.ref gd) ∧ a "lookup" = some (.ref lk) ∧ a "mask" = some (.int sc.mask t) ∧ BufAt H b sc.ds ∧ GdefAt prog w H gd sc.f ∧ LookAt H lk sc.flag
  cls : ∀ g, 0 ≤ sc.f g ∧ sc.f g ≤ 3
  flg : sc.flag = 0 ∨ sc.flag = 8 ∨ sc.flag = 2 ∨ sc.flag = 4 ∨ sc.flag = 12 ∨ sc.flag = 14

def bitOf (c : Int) : Int := if c = 1 then 2 else if c = 2 then 4 else if c = 3 then 8 else 0
def Sc.ign (sc : Sc) (g : Int) : Bool := Builtin.bitAnd sc.flag (bitOf (sc.f g)) != 0

section specs
variable {prog : Program} {w : World} {A : Around} {E Q : Value → Shared → Prop} {s : Shared} {H : Heap}

theorem z_dget {s₀ : Shared} {H₀ : Heap} {W : List Addr} {env : Env} {m cm : Str → Option Value} {ms : List (Addr × Obj)} {d : Addr} {f : Int → Option Value} {k : Int} {t : Tok} {dflt : Value} (F : Fz s₀ H₀ W env H m cm ms s) (hd : (d == sysModules) = false) (hm : s.heap.MapOf (intKind prog w) d f)
    (h : ∀ s', Fz s₀ H₀ W env H m cm ms s' → Q ((f k).getD dflt) s') : wpAny (model prog w) A (call (.builtin "dict.get") [.ref d, .int k t, dflt]) Q E s :=
  call_meetsIn PySem.F.slot_dict_get hm.typeIs PySem.F.entry_dict_get (PySem.F.args_dict_get_3 _ _ _) (meets_dict_get_default (intKind prog w) d (intKind_is prog w k t) hd dflt) ⟨f, hm, h _ (F.toks _)⟩

theorem z_dmeth {d : Addr} {f : Int → Option Value} {pl : Sem Bool} {Q : Value × List Value → Shared → Prop} (hm : s.heap.MapOf (intKind prog w) d f) (h : Q (.builtin "dict.get", [.ref d]) s) : wpAny (model prog w) A (getMethod (.ref d) "get" pl) Q E s :=
  getMethod_builtin hm.typeIs PySem.F.plainAttrs_dict PySem.F.slot_dict_get PySem.F.type_dict_get hm.noDict h

theorem Fz.big {s₀ : Shared} {H₀ : Heap} {W : List Addr} {env : Env} {m cm : Str → Option Value} {ms : List (Addr × Obj)} (F : Fz s₀ H₀ W env H m cm ms s) (g : Gl (hd.heap_1 w.params) H) : (s.heap.objs.size == sysModules) = false := by
  have k3 : ∃ o, (hd.heap_1 w.params).lookup 3 = some o := ⟨_, rfl⟩
  obtain ⟨o, ho⟩ := k3
  have := Heap.lt_size (F.le _ _ (g.k _ _ ho))
  exact beq_eq_false_iff_ne.mpr (Nat.ne_of_gt (Nat.lt_trans (show sysModules < 3 by decide) this))

/-- an object that is a dict of ints -/
def DObj (prog : Program) (w : World) (o : Obj) (kvs : List (Int × Value)) : Prop := ∃ es ep, o.ExactDict ∧ o.data = .dict es ep ∧ KeysOf (intKind prog w) es ∧ Pairs (intKind prog w) es.toList kvs ∧ (kvs.map (·.1)).Nodup
theorem DObj.at {h : Heap} {d : Addr} {o : Obj} {kvs : List (Int × Value)} (x : DObj prog w o kvs) (e : h.get? d = some o) : h.DictOf (intKind prog w) d kvs := let ⟨es, ep, r⟩ := x; ⟨o, es, ep, e, r⟩
theorem DObj.of {h : Heap} {d : Addr} {kvs : List (Int × Value)} (x : h.DictOf (intKind prog w) d kvs) : ∃ o, h.get? d = some o ∧ DObj prog w o kvs := let ⟨o, es, ep, e, r⟩ := x; ⟨o, e, es, ep, r⟩
/-- a dict display of ints -/
theorem z_dict {s₀ : Shared} {H₀ : Heap} {W : List Addr} {env : Env} {m cm : Str → Option Value} {ms : List (Addr × Obj)} {keys : List (Option Expr)} {values : List Expr} {pos : Pos} (F : Fz s₀ H₀ W env H m cm ms s) (g : Gl (hd.heap_1 w.params) H)
    (hall : keys.all (·.isSome) = true) (hl : keys.length = values.length) (h0 : keys ≠ []) (hlen : keys.length ≤ 15)
    (h : ∀ d s₁, s₀.heap.get? d = none → (d == sysModules) = false → Fz s₀ H₀ W env H m cm ((d, { cls := .type "dict", data := .dict #[] }) :: ms) s₁ →
      wpAny (model prog w) A (evalPairs (pairTrees keys values env pos)) (fun vs s₂ => ∃ kvs, Carries (intKind prog w) vs kvs ∧ Fz s₀ H₀ W env H m cm ((d, { cls := .type "dict", data := .dict #[] }) :: ms) s₂ ∧
        ∀ o s', Fz s₀ H₀ W env H m cm ((d, o) :: ms) s' → DObj prog w o (merged [] kvs) → Q (.ref d) s') E s₁) :
    wpAny (model prog w) A (eval (.Dict keys values pos) env) Q E s := by
  obtain ⟨F1, n0⟩ := F.push { cls := .type "dict", data := .dict #[] }
  refine wpAny_Dict_walk (knd := intKind prog w) hall hl h0 hlen (wpAny_mono (h _ _ n0 (F.big g) F1) (fun vs s₂ h₂ => ?_) fun _ _ x => x)
  obtain ⟨kvs, hc, F2, hq⟩ := h₂
  have ho := F2.ml (s.heap.objs.size, { cls := .type "dict", data := .dict #[] }) (by simp)
  refine ⟨kvs, hc, ⟨_, #[], 0, ho, ⟨rfl, rfl, rfl⟩, rfl, fun _ he => by simp at he, .nil, by simp⟩, fun h' hd hs => ?_⟩
  obtain ⟨o, es, ep, ho', r⟩ := id hd
  exact hq o _ (F2.touch (pre := []) hs ho') ⟨es, ep, r⟩

theorem attach_spec {flag : Int} {t : Tok} (g : Gl (hd.heap_1 w.params) H) (le : Le H s.heap) (hA : Ok A 2)
    (h : ∀ t s', St [] H s H s' → Q (.int ((flag.fdiv 256).fmod 256) t) s') : wpAny (model prog w) A (call (.ref 76) [.int flag t]) Q E s := by
  refine' z_enter (ms := []) (binds := [("flag", .int flag t)]) g le (by simp) (by simp) ?k6 ?k7 hA.room ?kb ?kk ?kn ?_ ?c1 ?c2 ?c3
  tb_rel
  intro L s₁ F
  repeat ktr_rel
  rename Fz _ _ _ _ _ _ _ _ _ => F
  repeat ktr_rel
  exact h _ _ F.st

theorem class_bit_spec {c : Int} {t : Tok} (g : Gl (hd.heap_1 w.params) H) (le : Le H s.heap) (hA : Ok A 2)
    (h : ∀ t s', St [] H s H s' → Q (.int (bitOf c) t) s') : wpAny (model prog w) A (call (.ref 83) [.int c t]) Q E s := by
  refine' z_enter (ms := []) (binds := [("number", .int c t)]) g le (by simp) (by simp) ?k6 ?k7 hA.room ?kb ?kk ?kn ?_ ?c1 ?c2 ?c3
  tb_rel
  intro L s₁ F
  repeat ktr_rel
  rename Fz _ _ _ _ _ _ _ _ _ => F
  refine z_dict F g rfl rfl (by simp) (by simp) ?_
  clear F
  intro d s₂ hd₀ hdS F
  refine pairTrees_cons_walk ?_
  repeat ktr_rel
  refine pairTrees_cons_walk ?_
  repeat ktr_rel
  refine pairTrees_cons_walk ?_
  repeat ktr_rel
  rename Fz _ _ _ _ _ _ _ _ _ => F
  refine evalPairs_nil ⟨[(1, _), (2, _), (3, _)], ⟨intKind_is _ _ _ _, rfl, intKind_is _ _ _ _, rfl, intKind_is _ _ _ _, rfl, trivial⟩, F, ?_⟩
  clear F
  intro o s₂ F hd
  refine z_dmeth (hd.at (F.ml (d, o) (by simp))).mapOf ?_
  repeat ktr_rel
  rename Fz _ _ _ _ _ _ _ _ _ => F
  refine z_dget F hdS (hd.at (F.ml (d, o) (by simp))).mapOf ?_
  clear F
  intro s₃ F
  have e : ∀ dt, ∃ t, (valueAt (merged [] [(1, Value.int 2 196), (2, Value.int 4 198), (3, Value.int 8 200)]) c).getD (.int 0 dt) = .int (bitOf c) t := fun dt => by
    unfold bitOf
    by_cases h1 : c = 1
    · subst h1; exact ⟨196, rfl⟩
    · by_cases h2 : c = 2
      · subst h2; exact ⟨198, rfl⟩
      · by_cases h3 : c = 3
        · subst h3; exact ⟨200, rfl⟩
        · refine ⟨dt, ?_⟩
          have hm : merged [] [(1, Value.int 2 196), (2, Value.int 4 198), (3, Value.int 8 200)] = [((1 : Int), Value.int 2 196), (2, Value.int 4 198), (3, Value.int 8 200)] := rfl
          rw [hm, if_neg h1, if_neg h2, if_neg h3]
          have g1 : ¬ (1 : Int) = c := fun e => h1 e.symm
          have g2 : ¬ (2 : Int) = c := fun e => h2 e.symm
          have g3 : ¬ (3 : Int) = c := fun e => h3 e.symm
          simp [valueAt, g1, g2, g3, h1, h2, h3]
  obtain ⟨t', et⟩ := e _
  rw [et]
  repeat ktr_rel
  exact h _ _ F.st
end specs

-- part DB
section specs
variable {prog : Program} {w : World} {A : Around} {E Q : Value → Shared → Prop} {s : Shared} {H : Heap}

theorem dic_up {H H' : Heap} {d : Addr} {kvs : List (Int × Value)} (k : Le H H') (x : H.DictOf (intKind prog w) d kvs) : H'.DictOf (intKind prog w) d kvs := x.at fun o e => k _ _ e

theorem class_of_spec {x : Addr} {f : Int → Int} {gl : Int} {t : Tok} (g : Gl (hd.heap_1 w.params) H) (le : Le H s.heap) (hA : Ok A 2) (hx : ClsAt prog w H x f)
    (h : ∀ t s', St [] H s H s' → Q (.int (f gl) t) s') : wpAny (model prog w) A (call (.ref 302) [.ref x, .int gl t]) Q E s := by
  refine' z_enter (ms := []) (binds := [("self", .ref x), ("glyph", .int gl t)]) g le (by simp) (by simp) ?k6 ?k7 hA.room ?kb ?kk ?kn ?_ ?c1 ?c2 ?c3
  tb_rel
  intro L s₁ F
  obtain ⟨a, d, I, h1, h2, hdS, kvs, hd, hv⟩ := hx
  repeat ktr_rel
  rename Fz _ _ _ _ _ _ _ _ _ => F
  refine z_dmeth (dic_up F.le hd).mapOf ?_
  repeat ktr_rel
  rename Fz _ _ _ _ _ _ _ _ _ => F
  refine z_dget F hdS (dic_up F.le hd).mapOf ?_
  clear F
  intro s₃ F
  rcases hv gl with ⟨t', e⟩ | ⟨e, e'⟩
  · rw [e]; repeat ktr_rel
    exact h _ _ F.st
  · rw [e]
    rw [e'] at h
    repeat ktr_rel
    exact h _ _ F.st

theorem glyph_class_spec {x : Addr} {f : Int → Int} {gl : Int} {t : Tok} (g : Gl (hd.heap_1 w.params) H) (le : Le H s.heap) (hA : Ok A 3) (hx : GdefAt prog w H x f) (hf : 0 ≤ f gl ∧ f gl ≤ 3)
    (h : ∀ t s', St [] H s H s' → Q (.int (f gl) t) s') : wpAny (model prog w) A (call (.ref 399) [.ref x, .int gl t]) Q E s := by
  refine' z_enter (ms := []) (binds := [("self", .ref x), ("glyph", .int gl t)]) g le (by simp) (by simp) ?k6 ?k7 hA.room ?kb ?kk ?kn ?_ ?c1 ?c2 ?c3
  tb_rel
  intro L s₁ F
  obtain ⟨a, c, I, h1, h2, hc⟩ := hx
  have hc' := hc
  obtain ⟨a', d, I', h1', h2', hdS, kvs, hd, hv⟩ := hc'
  repeat ktr_rel
  rename Fz _ _ _ _ _ _ _ _ _ => F
  refine class_of_spec g F.le hA.deeper hc fun t₁ s₂ st => ?_
  have F := F.next st
  repeat ktr_rel
  refine z_if (fun hb => ?_) (fun hb => ?_)
  · repeat ktr_rel
    refine z_if (fun hb2 => ?_) (fun hb2 => ?_)
    · repeat ktr_rel
      rename Fz _ _ _ _ _ _ _ _ _ => F
      repeat ktr_rel
      exact h _ _ F.st
    · exact absurd (decide_eq_true (show f gl ≤ 4 by omega)) hb2
  · repeat ktr_rel
    rename Fz _ _ _ _ _ _ _ _ _ => F
    have e : f gl = 0 := by
      have : ¬ (1 ≤ f gl) := fun q => hb (decide_eq_true q)
      omega
    rw [e] at h
    repeat ktr_rel
    exact h _ _ F.st

theorem is_ignored_spec {x y : Addr} {f : Int → Int} {flag gl : Int} {t : Tok} (g : Gl (hd.heap_1 w.params) H) (le : Le H s.heap) (hA : Ok A 5) (hx : GdefAt prog w H x f) (hy : LookAt H y flag) (hf : 0 ≤ f gl ∧ f gl ≤ 3)
    (hfl : flag = 0 ∨ flag = 8 ∨ flag = 2 ∨ flag = 4 ∨ flag = 12 ∨ flag = 14) (h : ∀ s', St [] H s H s' → Q (.bool (Builtin.bitAnd flag (bitOf (f gl)) != 0)) s') : wpAny (model prog w) A (call (.ref 90) [.ref x, .ref y, .int gl t]) Q E s := by
  refine' z_enter (ms := []) (binds := [("gdef", .ref x), ("lookup", .ref y), ("glyph", .int gl t)]) g le (by simp) (by simp) ?k6 ?k7 hA.room ?kb ?kk ?kn ?_ ?c1 ?c2 ?c3
  tb_rel
  intro L s₁ F
  have hx' := hx
  obtain ⟨a, c, I, h1, h2, hc⟩ := hx'
  obtain ⟨a', t', I', h1'⟩ := hy
  repeat ktr_rel
  rename Fz _ _ _ _ _ _ _ _ _ => F
  refine glyph_class_spec g F.le (hA.deeper.less (by omega)) hx hf fun t₁ s₂ st => ?_
  have F := F.next st
  repeat ktr_rel
  rename Fz _ _ _ _ _ _ _ _ _ => F
  refine class_bit_spec g F.le (hA.deeper.less (by omega)) fun t₂ s₃ st => ?_
  have F := F.next st
  repeat ktr_rel
  refine z_if (fun hb => ?_) (fun hb => ?_)
  · repeat ktr_rel
    rename Fz _ _ _ _ _ _ _ _ _ => F
    rw [hb] at h
    repeat ktr_rel
    exact h _ F.st
  · have hb' : (Builtin.bitAnd flag (bitOf (f gl)) != 0) = false := Bool.eq_false_iff.mpr hb
    rw [hb'] at h
    repeat ktr_rel
    refine z_if (fun hb2 => ?_) (fun hb2 => ?_)
    · repeat ktr_rel
      rename Fz _ _ _ _ _ _ _ _ _ => F
      repeat ktr_rel
      exact h _ F.st
    · repeat ktr_rel
      have e16 : (Builtin.bitAnd flag 16 != 0) = false := by rcases hfl with rfl | rfl | rfl | rfl | rfl | rfl <;> decide
      rw [e16]
      repeat ktr_rel
      rename Fz _ _ _ _ _ _ _ _ _ => F
      refine attach_spec g F.le (hA.deeper.less (by omega)) fun t₂ s₃ st => ?_
      have F := F.next st
      have e0 : (flag.fdiv 256).fmod 256 = 0 := by rcases hfl with rfl | rfl | rfl | rfl | rfl | rfl <;> decide
      rw [e0]
      repeat ktr_rel
      rename Fz _ _ _ _ _ _ _ _ _ => F
      refine z_if (fun q => absurd q (by decide)) (fun _ => ?_)
      repeat ktr_rel
      exact h _ F.st
end specs

-- part DP
theorem keys_list : typeLookup (.type "list") "keys" = pure none := by rw [typeLookup_type, builtinLookup_eq_fast]; kernel_rfl
theorem entry_dul : entryFor table "dict.update.loop" = some Builtin.«dict.update.loop» := entryFor_of_tree (by kernel_rfl)
theorem plain_dul : plainId "dict.update.loop" = true := by decide +kernel

theorem attrQ_miss {prog : Program} {w : World} {A : Around} {E : Value → Shared → Prop} {s : Shared} {a : Addr} {xs : Array Value} {k : Nat} {Q : Option Value → Shared → Prop}
    (hx : s.heap.get? a = some (listOf xs k)) (hA : A.handled = none)
    (h : ∀ h' tk, (∀ b o, s.heap.get? b = some o → h'.get? b = some o) → Q none { s with heap := h', toks := tk }) :
    wpAny (model prog w) A (getAttr? (.ref a) "keys") Q E s := by
  obtain ⟨hp, g, d, tk, os⟩ := s
  have hT : ∀ tk', (⟨hp, g, d, tk', os⟩ : Shared).TypeIs (.ref a) "list" := fun _ => ⟨_, hx, rfl⟩
  have f1 := sub_AttributeError
  have f3 := F.slot_list_getattribute.lookup
  have f4 := F.slot_list_getattribute.bind (.ref a)
  have f5 := am_list_getattr_none
  unfold getAttr? getAttrBy? getAttrBy
  repeat (any_goals (first | assumption | exact hT _ | ((with_reducible show wpAny _ _ (call (Value.builtin "list.__getattribute__") _ _) _ _ _); refine call_meets F.slot_list_getattribute (hT _) am_entry_list_getattribute (F.args_list_getattribute_2 _ _) (meets_getattribute_miss_list a xs k #[] "keys" _ keys_list (by decide) (by decide)) ⟨hx, hA, fun h' tk' e hx' => ?_⟩) | wp_step))
  obtain ⟨t', u', he⟩ := hx'.there
  show wpAny _ _ (getattributeRaised _ _ _ _ _ _ _) _ _ _
  unfold getattributeRaised
  repeat (any_goals (first | assumption | wp_step))
  exact h _ _ hx'.keeps

theorem code_dul {prog : Program} {w : World} {A : Around} {R : Result → Shared → Prop} {I D : Addr} {fp : List Addr} {n : Nat} {P : Nat → Value → Prop} {Stt : Nat → Heap → Prop} (Wk : Walks prog w A.in1 I fp [I] n P Stt) (hDf : D ∉ fp) (hDI : D ≠ I)
    {kvs : List (Int × Value)} (hn : kvs.length = n) (hsz : n ≤ sizeLine) (h0 : Heap)
    (hP : ∀ i v, P i v → ∃ T kk kt x, v = .ref T ∧ IsTup h0 T #[.int kk kt, x] ∧ kvs[i]? = some (kk, x)) (hTI : ∀ T o, h0.get? T = some o → T ≠ I ∧ T ≠ D) :
    ∀ (k i : Nat) (s : Shared), n - i = k → i ≤ n → Stt i s.heap → s.heap.DictOf (intKind prog w) D (merged [] (kvs.take i)) → (∀ b o, h0.get? b = some o → s.heap.get? b = some o) →
      (∀ h' tk, h'.DictOf (intKind prog w) D (merged [] kvs) → (∀ b o, h0.get? b = some o → h'.get? b = some o) → R (.ok (.ret .none)) { s with heap := h', toks := tk }) →
      codeAny (model prog w) A (.builtin "dict.update.loop" ⟨[.ref D, .ref I, rawInt i, .none], []⟩) R s := by
  intro k
  induction k with
  | zero =>
    intro i s hk hi hst hD h00 hR
    have hin : i = n := by omega
    subst hin
    refine codeAny_builtin entry_dul ?_
    rw [Around.under_plainId plain_dul _]
    show wpAny _ A.in1 (pyNext (.ref I) >>= _) _ _ s
    refine wpAny_bind (Wk.done s _ _ hst fun h' tk hm => ?_)
    show wpAny _ A.in1 (Builtin.Dict.addKeywords D [] >>= _) _ _ _
    refine wpAny_bind (wpAny_pure (wpAny_pure ?_))
    rw [List.take_of_length_le (by omega)] at hD
    exact hR _ _ (hD.at fun o e => hm _ _ (by simpa using hDI) e) fun b o e => hm _ _ (by simpa using (hTI b o e).1) (h00 _ _ e)
  | succ k ih =>
    intro i s hk hi hst hD h00 hR
    have hlt : i < n := by omega
    refine codeAny_builtin entry_dul ?_
    rw [Around.under_plainId plain_dul _]
    show wpAny _ A.in1 (pyNext (.ref I) >>= _) _ _ s
    refine wpAny_bind (Wk.item i s _ _ hlt hst fun v h' tk hPv hst' hm => ?_)
    obtain ⟨T, kk, kt, x, rfl, hT, hkv⟩ := hP i v hPv
    have h01 : ∀ b o, h0.get? b = some o → h'.get? b = some o := fun b o e => hm _ _ (by simpa using (hTI b o e).1) (h00 _ _ e)
    obtain ⟨oT, hoT, hcT, nT, hdT⟩ := hT
    have hoT' := h01 _ _ hoT
    have hD' : h'.DictOf (intKind prog w) D (merged [] (kvs.take i)) := hD.at fun o e => hm _ _ (by simpa using hDI) e
    show wpAny _ A.in1 (holding [Value.ref T] _ >>= _) _ _ _
    refine wpAny_bind (wpAny_holding (wpAny_bind (wpAny_tryCatch ?_)))
    unfold Builtin.Dict.pairItems
    refine wpAny_bind (wpAny_typeOf (T := "tuple") ⟨oT, hoT', hcT⟩ ?_)
    rw [if_pos (by decide)]
    refine wpAny_bind (m := seqItems? (.ref T)) ?_
    unfold seqItems?
    refine wpAny_bind (wpAny_load hoT' ?_)
    rw [hdT]
    refine wpAny_pure (wpAny_pure ?_)
    show wpAny _ A.in1 (holding [Value.int kk kt, x] (dictSet D (.int kk kt) x)) _ _ _
    refine wpAny_holding (wpAny_dictSet_pairs (knd := intKind prog w) (k := kk) (intKind_is prog w kk kt) hD' (fun h2 hD2 hs2 => ?_) ?_)
    · refine wpAny_pure ⟨plainId_quiet plain_dul _, ?_⟩
      have h02 : ∀ b o, h0.get? b = some o → h2.get? b = some o := fun b o e => (hs2.2 b (hTI b o e).2).trans (h01 _ _ e)
      rw [show rawInt ((i : Int) + 1) = rawInt ((i + 1 : Nat) : Int) by congr 1]
      refine ih (i + 1) { s with heap := h2, toks := tk + 1 } (by omega) hlt (Wk.frame _ _ _ hst' fun b hb o e => (hs2.2 b (fun q => hDf (q ▸ hb))).trans e) ?_ h02 fun h3 tk3 hD3 h03 => hR h3 tk3 hD3 h03
      rw [merged_take_succ _ _ _ _ hkv]
      exact hD2
    · have := merged_length_le ([] : List (Int × Value)) (kvs.take i)
      have h4 : (kvs.take i).length ≤ kvs.length := by rw [List.length_take]; omega
      simp only [List.length_nil, Nat.zero_add] at this
      omega

theorem call_dictOf {prog : Program} {w : World} {A : Around} {E Q : Value → Shared → Prop} {s : Shared} {l : Addr} {vs : List Value} {nn : Nat} {kvs : List (Int × Value)} (hh : A.handled = none) (hl : s.heap.get? l = some (listOf vs.toArray nn)) (hlen : kvs.length = vs.length) (hsz : vs.length ≤ sizeLine)
    (hP : ∀ (i : Nat) v, vs[i]? = some v → ∃ T kk kt x, v = .ref T ∧ IsTup s.heap T #[.int kk kt, x] ∧ kvs[i]? = some (kk, x))
    (h : ∀ h' tk, h'.DictOf (intKind prog w) s.heap.objs.size (merged [] kvs) → (∀ b o, s.heap.get? b = some o → h'.get? b = some o) → Q (.ref s.heap.objs.size) { s with heap := h', toks := tk }) :
    wpAny (model prog w) A (call (.type "dict") [.ref l]) Q E s := by
  refine callType_codes (Q₁ := fun obj s₁ => obj = .ref s.heap.objs.size ∧ s₁ = { s with heap := s.heap.push { cls := .type "dict", data := .dict #[] } }) F.kt_called_dict (F.kt_typeCall_dict_1 _) F.entry_dict_init (kt_code_dict_new _ ⟨rfl, rfl⟩) ?_
  rintro obj s₁ ⟨rfl, rfl⟩
  have hnew : (s.heap.push { cls := .type "dict", data := .dict #[] }).DictOf (intKind prog w) s.heap.objs.size [] := Heap.DictOf.new s.heap
  have hl' : (s.heap.push { cls := .type "dict", data := .dict #[] }).get? l = some (listOf vs.toArray nn) := Heap.get?_push_of_some _ hl
  have hll : l < s.heap.objs.size := Heap.lt_size hl
  refine ⟨hnew.typeIs, F.args_dict_init_2 _ _, ?_⟩
  unfold Builtin.«dict.__init__»
  refine wpAny_bind ?_
  unfold Builtin.Dict.selfAndRest
  refine wpAny_bind (wpAny_notOrdered_dict hnew.typeIs ?_)
  show wpAny _ _ (pure (s.heap.objs.size, [Value.ref l])) _ _ _
  refine wpAny_pure ?_
  show wpAny _ _ (Builtin.Dict.updateFrom "dict.__init__" s.heap.objs.size (.ref l) [] .none) _ _ _
  unfold Builtin.Dict.updateFrom
  refine wpAny_bind (wpAny_typeOf (T := "list") ⟨_, hl', rfl⟩ ?_)
  rw [if_pos (by decide)]
  refine wpAny_bind (attrQ_miss hl' hh fun h₁ tk₁ hk₁ => ?_)
  simp only [Option.isNone_none, if_true]
  refine wpAny_bind (wpAny_rule ?_)
  have hl₁ : h₁.get? l = some (listOf vs.toArray nn) := hk₁ _ _ hl'
  refine wpAny_bind (wpAny_pyIter_list (items := vs.toArray) (s := { s with heap := h₁, toks := tk₁ }) ⟨_, hl₁, rfl, _, rfl⟩ ?_)
  refine wpAny_bind (wpAny_pure (wpAny_pure ⟨plainId_quiet plain_dul _, ?_⟩))
  have hD₁ : h₁.DictOf (intKind prog w) s.heap.objs.size [] := hnew.at fun o e => hk₁ _ _ e
  have hsz₁ : s.heap.objs.size < h₁.objs.size := by obtain ⟨o, _, _, ho, _⟩ := hD₁; exact Heap.lt_size ho
  have hk0 : ∀ b o, s.heap.get? b = some o → (h₁.push { cls := .type "list_iterator", data := .fields #[.ref l, .int 0 0] }).get? b = some o := fun b o e => Heap.get?_push_of_some _ (hk₁ _ _ (Heap.get?_push_of_some _ e))
  refine code_dul (A := A.in1) (I := h₁.objs.size) (D := s.heap.objs.size) (n := vs.toArray.size) (kvs := kvs) (Walks.list (A := A.in1.in1) hh h₁.objs.size l (Nat.ne_of_lt (Nat.lt_trans hll hsz₁)) vs.toArray) ?_ (Nat.ne_of_lt hsz₁) (by simpa using hlen) (by simpa using hsz) s.heap ?_ ?_
    vs.toArray.size 0 _ rfl (Nat.zero_le _) ⟨⟨_, Heap.get?_push_size _ rfl, rfl, rfl⟩, ⟨_, Heap.get?_push_of_some _ hl₁, rfl, _, rfl⟩⟩ ?_ hk0 fun h' tk hd hk => ?_
  · intro q
    simp at q
    rcases q with q | q
    · exact absurd q (Nat.ne_of_lt hsz₁)
    · rw [q] at hll; exact Nat.lt_irrefl _ hll
  · intro i v hv
    exact hP i v (by simpa using hv)
  · intro T o e
    have := Heap.lt_size e
    exact ⟨Nat.ne_of_lt (Nat.lt_trans this hsz₁), Nat.ne_of_lt this⟩
  · show (h₁.push _).DictOf _ _ (merged [] [])
    exact hD₁.push _
  · exact ⟨rfl, h h' tk hd hk⟩

-- part FA
abbrev tupOf (vs : List Value) : Obj := { cls := .type "tuple", data := .seq vs.toArray }
abbrev sliceOf (a b c : Value) : Obj := { cls := .type "slice", data := .fields #[a, b, c] }
abbrev rangeOf (n : Int) (t u v : Tok) : Obj := { cls := .type "range", data := .fields #[.int 0 t, .int n u, .int 1 v] }
/-- what a new object hands on -/
def Mk (o : Obj) (Q : Value → Shared → Prop) (s : Shared) : Prop := Q (.ref s.heap.objs.size) { s with heap := s.heap.push o }
/-- a list, a tuple -/
def LA (H : Heap) (l : Addr) (vs : List Value) : Prop := ∃ n, H.get? l = some (listOf vs.toArray n)
theorem LA.up {H H' : Heap} {l : Addr} {vs : List Value} (x : LA H l vs) (k : Le H H') : LA H' l vs := let ⟨n, e⟩ := x; ⟨n, k _ _ e⟩
theorem LA.isList {H : Heap} {l : Addr} {vs : List Value} (x : LA H l vs) : H.IsList l vs.toArray := let ⟨n, e⟩ := x; ⟨_, e, rfl, n, rfl⟩
def TA (H : Heap) (l : Addr) (vs : List Value) : Prop := H.get? l = some (tupOf vs)
theorem TA.up {H H' : Heap} {l : Addr} {vs : List Value} (x : TA H l vs) (k : Le H H') : TA H' l vs := k _ _ x
theorem TA.isTup {H : Heap} {l : Addr} {vs : List Value} (x : TA H l vs) : IsTup H l vs.toArray := ⟨_, x, rfl, 0, rfl⟩
/-- a list of ints -/
def IL (H : Heap) (v : Value) (ns : List Int) : Prop := ∃ l vs, v = .ref l ∧ LA H l vs ∧ IntsAre vs ns
theorem IL.up {H H' : Heap} {v : Value} {ns : List Int} (x : IL H v ns) (k : Le H H') : IL H' v ns := let ⟨l, vs, e, h, i⟩ := x; ⟨l, vs, e, h.up k, i⟩
/-- a list whose items are told one by one -/
def Ls {δ : Type} (R : Heap → Value → δ → Prop) (H : Heap) (v : Value) (ds : List δ) : Prop := ∃ l vs, v = .ref l ∧ LA H l vs ∧ All2 (R H) vs ds
theorem Ls.up {δ : Type} {R : Heap → Value → δ → Prop} {H H' : Heap} {v : Value} {ds : List δ} (x : Ls R H v ds) (k : Le H H') (hR : ∀ v d, R H v d → R H' v d) : Ls R H' v ds := let ⟨l, vs, e, h, i⟩ := x; ⟨l, vs, e, h.up k, i.mono hR⟩
theorem All2.nil {α β : Type} {R : α → β → Prop} : All2 R [] [] := ⟨rfl, fun i v d h => by simp at h⟩
theorem All2.snoc {α β : Type} {R : α → β → Prop} {vs : List α} {ds : List β} {v : α} {d : β} (x : All2 R vs ds) (h : R v d) : All2 R (vs ++ [v]) (ds ++ [d]) := by
  refine ⟨by simp [x.1], fun i v' d' hv hd => ?_⟩
  rcases Nat.lt_or_ge i vs.length with q | q
  · rw [List.getElem?_append_left q] at hv
    rw [List.getElem?_append_left (by rw [← x.1]; exact q)] at hd
    exact x.2 i v' d' hv hd
  · rw [List.getElem?_append_right q] at hv
    rw [List.getElem?_append_right (by rw [← x.1]; exact q)] at hd
    rw [x.1] at hv
    have q' : i - ds.length = 0 := by
      have := (List.getElem?_eq_some_iff.mp hv).1
      simpa using this
    rw [q'] at hv hd
    simp at hv hd
    subst hv hd
    exact h
theorem IntsAre.snoc {vs : List Value} {ns : List Int} (x : IntsAre vs ns) (k : Int) (t : Tok) : IntsAre (vs ++ [.int k t]) (ns ++ [k]) := x.append (.cons k t .nil)

section fa
variable {prog : Program} {w : World} {A : Around} {E : Value → Shared → Prop} {s₀ s : Shared} {H₀ H : Heap} {W : List Addr} {env : Env} {m cm : Str → Option Value} {ms : List (Addr × Obj)} {M : Model}

theorem z_mk {o : Obj} {Q : Value → Shared → Prop} (F : Fz s₀ H₀ W env H m cm ms s) (h : ∀ T s', s₀.heap.get? T = none → Fz s₀ H₀ W env H m cm ((T, o) :: ms) s' → Q (.ref T) s') (ho : o.isFreed = false := by rfl) : Mk o Q s :=
  let ⟨G, n⟩ := F.push o ho; h _ _ n G
/-- a new object that stands fixed from here on -/
theorem z_mkF {o : Obj} {Q : Value → Shared → Prop} (F : Fz s₀ H₀ W env H m cm ms s) (h : ∀ T s' H', Le H H' → H'.get? T = some o → Fz s₀ H₀ W env H' m cm ms s' → Q (.ref T) s') (ho : o.isFreed = false := by rfl) : Mk o Q s :=
  let ⟨H', a, b, G⟩ := F.pushed o ho; h _ _ _ a b G
theorem Fz.m0 {p : Addr × Obj} (F : Fz s₀ H₀ W env H m cm (p :: ms) s) : s.heap.get? p.1 = some p.2 := F.ml p (by simp)
theorem Fz.m1 {p q : Addr × Obj} (F : Fz s₀ H₀ W env H m cm (q :: p :: ms) s) : s.heap.get? p.1 = some p.2 := F.ml p (by simp)
theorem Fz.m2 {p q r : Addr × Obj} (F : Fz s₀ H₀ W env H m cm (r :: q :: p :: ms) s) : s.heap.get? p.1 = some p.2 := F.ml p (by simp)
theorem Fz.m3 {p q r t : Addr × Obj} (F : Fz s₀ H₀ W env H m cm (t :: r :: q :: p :: ms) s) : s.heap.get? p.1 = some p.2 := F.ml p (by simp)
theorem z_Tuple {elts : List Expr} {k : Nat} {pos : Pos} {Q : Value → Shared → Prop} (h : wpAny M A (spliced (backTo pos (starEach elts env))) (fun vs s₁ => vs.length ≤ 1000 ∧ Mk (tupOf vs) Q s₁) E s) : wpAny M A (eval (.Tuple elts k pos) env) Q E s :=
  wpAny_Tuple (wpAny_mono h (fun _ _ x => ⟨Nat.le_trans x.1 (by rw [sizeLine_eq]; decide), x.2⟩) fun _ _ x => x)
theorem z_List {elts : List Expr} {pos : Pos} {Q : Value → Shared → Prop} (h : wpAny M A (spliced (backTo pos (starEach elts env))) (fun vs s₁ => vs.length ≤ 1000 ∧ Mk (listOf vs.toArray 0) Q s₁) E s) : wpAny M A (eval (.List elts pos) env) Q E s :=
  wpAny_List (wpAny_mono h (fun _ _ x => ⟨Nat.le_trans x.1 (by rw [sizeLine_eq]; decide), x.2⟩) fun _ _ x => x)
theorem z_Slice {lower upper step : Option Expr} {p : Pos} {Q : Value → Shared → Prop}
    (h : wpAny M A (evalPart lower env) (fun l s₁ => wpAny M A (evalPart upper env) (fun u s₂ => wpAny M A (evalPart step env) (fun st s₃ => Mk (sliceOf l u st) Q s₃) E s₂) E s₁) E s) :
    wpAny M A (eval (.Slice lower upper step p) env) Q E s := wpAny_Slice h
theorem z_partN {Q : Value → Shared → Prop} (h : Q .none s) : wpAny M A (evalPart none env) Q E s := wpAny_pure h
theorem z_partS {e : Expr} {Q : Value → Shared → Prop} (h : wpAny M A (eval e env) Q E s) : wpAny M A (evalPart (some e) env) Q E s := h
theorem z_slice {value slice : Expr} {l sl : Addr} {items : List Value} {vl vu vk : Value} {lo hi st : Option Int} {Q : Value → Shared → Prop} (hl : s.heap.IsList l items.toArray) (hsl : s.heap.get? sl = some (sliceOf vl vu vk)) (pl : IsPart vl lo) (pu : IsPart vu hi) (pk : IsPart vk st)
    (h0 : st ≠ some 0) (hsz : items.length ≤ 1000) (h : Mk (listOf (slicePick items.toArray lo hi st) 0) Q s)
    (hs : subscripted slice false (.ref l) (.ref sl) = operate [.ref sl, .ref l] (getItem (.ref l) (.ref sl)) := by with_unfolding_all rfl) (ht : ∀ r, letTemporaryGo value (.ref l) r = pure () := by intro _; with_unfolding_all rfl) :
    wpAny (model prog w) A (subscriptTail value slice (.ref l) (.ref sl)) Q E s :=
  subscriptTail_ops hl.typeIs list_getitem_lookup (wpAny_getItem_list_slice hl ⟨_, hsl, rfl, rfl⟩ pl pu pk h0 h (by rw [List.size_toArray, sizeLine_eq]; omega)) hs ht

theorem z_addL {a b : Addr} {us vs : List Value} {Q : Value → Shared → Prop} (ha : LA s.heap a us) (hb : LA s.heap b vs) (hsz : us.length + vs.length ≤ 1000) (h : Mk (listOf (us ++ vs).toArray 0) Q s) :
    wpAny (model prog w) A (binaryOp .Add (.ref a) (.ref b)) Q E s := by
  obtain ⟨n, ha⟩ := ha
  obtain ⟨k, hb⟩ := hb
  refine P.add_list ha hb ?_ (by rw [List.size_toArray, List.size_toArray, sizeLine_eq]; omega)
  rw [List.append_toArray]
  exact h

theorem z_append {R : Addr} {vs : List Value} {n : Nat} {x : Value} {pre post : List (Addr × Obj)} {Q : Value → Shared → Prop} (F : Fz s₀ H₀ W env H m cm (pre ++ (R, listOf vs.toArray n) :: post) s) (hsz : vs.length ≤ 1000)
    (h : ∀ n' s', Fz s₀ H₀ W env H m cm (pre ++ (R, listOf (vs ++ [x]).toArray n') :: post) s' → Q .none s') : wpAny (model prog w) A (call (.builtin "list.append") [.ref R, x]) Q E s := by
  have ho := F.ml (R, listOf vs.toArray n) (by simp)
  refine wpAny_list_append_plain (items := vs.toArray) (hsz := by rw [List.size_toArray, sizeLine_eq]; omega) ⟨n, ho⟩ fun h' hl hs => ?_
  obtain ⟨n', ho'⟩ := hl
  rw [List.push_toArray] at ho'
  exact h n' _ (F.touch (tk := s.toks) hs ho')

theorem z_range {n : Int} {t : Tok} {Q : Value → Shared → Prop} (F : Fz s₀ H₀ W env H m cm ms s) (h : ∀ r u v s', s₀.heap.get? r = none → Fz s₀ H₀ W env H m cm ((r, rangeOf n u t v) :: ms) s' → Q (.ref r) s') :
    wpAny (model prog w) A (call (.type "range") [.int n t]) Q E s := by
  refine call_range_1 ?_
  obtain ⟨G, n0⟩ := F.push (rangeOf n s.toks t (s.toks + 1))
  exact h _ _ _ _ n0 (G.toks _)
theorem z_range2 {a n : Int} {t u : Tok} {Q : Value → Shared → Prop} (F : Fz s₀ H₀ W env H m cm ms s) (h : ∀ r v s', s₀.heap.get? r = none → Fz s₀ H₀ W env H m cm ((r, { cls := .type "range", data := .fields #[.int a t, .int n u, .int 1 v] }) :: ms) s' → Q (.ref r) s') :
    wpAny (model prog w) A (call (.type "range") [.int a t, .int n u]) Q E s := by
  refine call_range_2 ?_
  obtain ⟨G, n0⟩ := F.push { cls := .type "range", data := .fields #[.int a t, .int n u, .int 1 s.toks] }
  exact h _ _ _ n0 (G.toks _)

theorem z_itemTA {value slice : Expr} {l : Addr} {items : List Value} {k : Int} {u : Tok} {x : Value} {Q : Value → Shared → Prop} (hl : TA s.heap l items) (hx : items.toArray[k.toNat]? = some x) (h : Q x s) (h0 : 0 ≤ k := by first | assumption | decide | omega) (hsz : items.length ≤ 1000 := by first | exact Nat.le_of_ble_eq_true rfl | omega)
    (hs : subscripted slice false (.ref l) (.int k u) = operate [.ref l, .int k u] (getItem (.ref l) (.int k u)) := by with_unfolding_all rfl) :
    wpAny (model prog w) A (subscriptTail value slice (.ref l) (.int k u)) Q E s := by
  have hk : k.toNat < items.toArray.size := (Array.getElem?_eq_some_iff.mp hx).1
  rw [List.size_toArray] at hk
  exact z_itemT hl.isTup h0 (by rw [List.size_toArray]; omega) (by rw [List.size_toArray, sizeLine_eq]; omega) hx h hs
theorem z_itemL {value slice : Expr} {l : Addr} {items : List Value} {k : Int} {u : Tok} {x : Value} {Q : Value → Shared → Prop} (hl : s.heap.IsList l items.toArray) (hx : items.toArray[k.toNat]? = some x) (h : Q x s) (h0 : 0 ≤ k := by first | assumption | decide | omega) (hsz : items.length ≤ 1000 := by first | exact Nat.le_of_ble_eq_true rfl | omega)
    (hs : subscripted slice false (.ref l) (.int k u) = operate [.ref l, .int k u] (getItem (.ref l) (.int k u)) := by with_unfolding_all rfl) :
    wpAny (model prog w) A (subscriptTail value slice (.ref l) (.int k u)) Q E s := by
  have hk : k.toNat < items.toArray.size := (Array.getElem?_eq_some_iff.mp hx).1
  rw [List.size_toArray] at hk
  exact z_item hl h0 (by omega) hx h hs

/-- an object that a call made is one that may change -/
theorem Fz.made {H' : Heap} {s' : Shared} {dx : Addr} {od : Obj} (F : Fz s₀ H₀ W env H m cm ms s) (x : St [] H s H' s') (h1 : s.heap.get? dx = none) (h2 : H'.get? dx = none) (h3 : s'.heap.get? dx = some od) :
    Fz s₀ H₀ W env H' m cm ((dx, od) :: ms) s' ∧ s₀.heap.get? dx = none := by
  have n0 := F.st.alive _ h1
  refine ⟨(F.next x).mutable n0 h2 h3 fun q => ?_, n0⟩
  obtain ⟨o, ho⟩ := F.there _ q
  rw [h1] at ho; cases ho

theorem z_take {P : Addr} {o : Obj} {many : Int} {tk : Tok} {pre post : List (Addr × Obj)} {Q : Value → Shared → Prop} (F : Fz s₀ H₀ W env H m cm (pre ++ (P, o) :: post) s) (g : Gl (hd.heap_1 w.params) H) (hA : Ok A 2) (ho : PoolAt o) (hm : 0 < many) (hm' : many < 1000)
    (h : ∀ d t o' s', 0 ≤ d → d < many → PoolAt o' → Fz s₀ H₀ W env H m cm (pre ++ (P, o') :: post) s' → Q (.int d t) s') : wpAny (model prog w) A (call (.ref 432) [.ref P, .int many tk]) Q E s :=
  take_spec g F.le hA (F.ml (P, o) (by simp)) (F.off P Fz.mem_muts) ho hm hm' fun d t s' o' a b st e ho' => h d t o' s' a b ho' (F.put st e)

theorem z_notNone {v : Value} {Q : Value → Shared → Prop} (h : Q (.bool (!(v == .none))) s) : wpAny M A (compareOp .IsNot v .none) Q E s := isNot_none h

/-- a dict out of a list of pairs -/
theorem z_dictOf {l : Addr} {vs : List Value} {kvs : List (Int × Value)} {Q : Value → Shared → Prop} (F : Fz s₀ H₀ W env H m cm ms s) (g : Gl (hd.heap_1 w.params) H) (hA : A.handled = none) (hl : LA s.heap l vs) (hlen : kvs.length = vs.length) (hsz : vs.length ≤ 1000)
    (hP : ∀ (i : Nat) v, vs[i]? = some v → ∃ T kk kt x, v = .ref T ∧ TA s.heap T [.int kk kt, x] ∧ kvs[i]? = some (kk, x))
    (h : ∀ d o s', (d == sysModules) = false → s₀.heap.get? d = none → DObj prog w o (merged [] kvs) → Fz s₀ H₀ W env H m cm ((d, o) :: ms) s' → Q (.ref d) s') :
    wpAny (model prog w) A (call (.type "dict") [.ref l]) Q E s := by
  obtain ⟨n, hl⟩ := hl
  refine call_dictOf hA hl hlen (by rw [sizeLine_eq]; omega) (fun i v hv => let ⟨T, kk, kt, x, e, hT, hk⟩ := hP i v hv; ⟨T, kk, kt, x, e, hT.isTup, hk⟩) fun h' tk hd hk => ?_
  obtain ⟨o, ho, hO⟩ := DObj.of hd
  have fr : s.heap.get? s.heap.objs.size = none := fresh_size _
  have st : St [] H s H { s with heap := h', toks := tk } := ⟨⟨_, _, rfl⟩, fun b o _ e => hk b o e, fun b e => ?_, .refl, F.le.trans hk, fun _ _ e => .inl e⟩
  · obtain ⟨G, n0⟩ := F.made st fr (by
      rcases get_none_or (h := H) s.heap.objs.size with q | ⟨o', q⟩
      · exact q
      · rw [F.le _ _ q] at fr; cases fr) ho
    exact h _ o _ (F.big g) n0 hO G
  · rcases get_none_or (h := s.heap) b with q | ⟨o', q⟩
    · exact q
    · rw [show ({ s with heap := h', toks := tk } : Shared).heap.get? b = h'.get? b from rfl, hk b o' q] at e; cases e

/-- behind a comprehension -/
theorem Fz.endC {C : Addr} {co : Obj} {h' : Heap} (F : Fz s₀ H₀ W env H m cm ((C, co) :: ms) s) (hC₀ : s₀.heap.get? C = none) (hs : Heap.SameBut C s.heap h') : Fz s₀ H₀ W env H m cm ms { s with heap := h' } :=
  F.spoil (pre := []) (tk := s.toks) hC₀ fun b ob hb e => (hs.2 b (by simpa using hb)).trans e
theorem Fz.swap {p q : Addr × Obj} (F : Fz s₀ H₀ W env H m cm (p :: q :: ms) s) : Fz s₀ H₀ W env H m cm (q :: p :: ms) s := F.perm (List.Perm.swap _ _ _)
/-- an object that a call made, fixed from here on -/
theorem Fz.inst {H' : Heap} {s' : Shared} {x dx C : Addr} {od : Obj} {a : Str → Option Value} {k : Nat} (F : Fz s₀ H₀ W env H m cm ms s) (st : St [] H s H' s') (h1 : s.heap.get? dx = none) (hx : H'.get? x = some (instObj C dx)) (h2 : H'.get? dx = none) (h3 : s'.heap.get? dx = some od) (hN : NsObj od a k) :
    ∃ H₂, Le H H₂ ∧ InstOf H₂ x C a ∧ Fz s₀ H₀ W env H₂ m cm ms s' := by
  obtain ⟨G, n0⟩ := F.made st h1 h2 h3
  obtain ⟨H₂, le, hd, G⟩ := G.freeze n0
  exact ⟨H₂, st.le.trans le, ⟨dx, od, k, le _ _ hx, hd, hN⟩, G⟩
theorem z_dict0 {pos : Pos} {Q : Value → Shared → Prop} (h : Mk { cls := .type "dict", data := .dict #[] } Q s) : wpAny M A (eval (.Dict [] [] pos) env) Q E s := by
  rw [eval_Dict_empty]; simp only [newDict, newObj]
  exact wpAny_bind (wpAny_standAt (wpAny_bind (wpAny_alloc (wpAny_pure h))))
theorem z_itemD {value slice : Expr} {d : Addr} {kvs : List (Int × Value)} {k : Int} {u : Tok} {v : Value} {Q : Value → Shared → Prop} (F : Fz s₀ H₀ W env H m cm ms s) (hd : s.heap.DictOf (intKind prog w) d kvs) (hv : valueAt kvs k = some v) (h : ∀ s', Fz s₀ H₀ W env H m cm ms s' → Q v s')
    (hs : subscripted slice false (.ref d) (.int k u) = operate [.ref d, .int k u] (getItem (.ref d) (.int k u)) := by with_unfolding_all rfl) :
    wpAny (model prog w) A (subscriptTail value slice (.ref d) (.int k u)) Q E s :=
  tail_any hd.typeIs slot_dict_getitem.lookup (wpAny_getItem_of (intKind_is prog w k u) hd.mapOf hv (h _ (F.toks _))) hs
theorem ready_range0 {scope : Scope} {cl : List (Str × Addr)} {x : Str} {ifs : List Expr} {elt : Expr} {T : Addr → Addr → Shared → Prop} {r : Addr} {n : Nat} {t u v : Tok} (hh : A.handled = none) (F : Fz s₀ H₀ W env H m cm ((r, rangeOf n u t v) :: ms) s)
    (hcl : ClOk cl env) (hsz : n ≤ 1000) (J : Nat → List Value → Heap → List (Addr × Obj) → Prop) (h0 : J 0 [] H ms) (step : CompStep prog w A env cm scope cl x ifs elt n (fun i v => ∃ t, v = .int (i : Int) t) H J)
    (fin : ∀ D C ys H' ms' nn co mC s', s₀.heap.get? D = none → s₀.heap.get? C = none → J n ys H' ms' → Le H H' → ms'.map (·.1) = ms.map (·.1) → Fz s₀ H₀ W env H' m cm ((C, co) :: (D, listOf ys.toArray nn) :: ms') s' → s'.heap.Ns C mC → T D C s') :
    wpAny (model prog w) A (pyIter (.ref r)) (fun it s₂ => Ready prog w A env scope cl x ifs elt it s₂ T) E s := by
  have hr : IsRange s.heap r 0 (0 + (n : Int)) 1 u t v := by rw [Int.zero_add]; exact F.m0
  refine ready_range hh (F.forget (pre := [])) hr (by decide) hcl (by rw [sizeLine_eq]; omega) J h0 ?_ fin
  rintro i v ys H' ms' s' C mC E' hi ⟨t', e⟩
  rw [Int.zero_add] at e
  exact step i v ys H' ms' s' C mC E' hi ⟨t', e⟩
theorem for_range0 {x : Str} {px : Pos} {body : List Stmt} {R : Result → Shared → Prop} {r : Addr} {n : Nat} {t u v : Tok} (hh : A.handled = none) (F : Fz s₀ H₀ W env H m cm ((r, rangeOf n u t v) :: ms) s)
    (hsz : n ≤ 1000) (hx : env.kindOf x = some .local)
    (J : Nat → Heap → (Str → Option Value) → (Str → Option Value) → List (Addr × Obj) → Prop) (h0 : J 0 H m cm ms) (turn : ForTurn prog w A s₀ H₀ W env x body R n (fun i v => ∃ t, v = .int (i : Int) t) J)
    (fin : ∀ H m cm ms s, J n H m cm ms → Fz s₀ H₀ W env H m cm ms s → R (.ok .next) s) (hk : env.scope.kind = .function := by rfl) :
    wpAny (model prog w) A (pyIter (.ref r)) (fun it s₂ => codeAny (model prog w) A (.forLoop (.Name x px) it body [] env) R s₂) E s := by
  have hr : IsRange s.heap r 0 (0 + (n : Int)) 1 u t v := by rw [Int.zero_add]; exact F.m0
  refine for_range hh (F.forget (pre := [])) hr (by decide) (by rw [sizeLine_eq]; omega) hx J h0 ?_ fin hk
  rintro i v I io H' m' cm' ms' s' E' hi ⟨t', e⟩
  rw [Int.zero_add] at e
  exact turn i v I io H' m' cm' ms' s' E' hi ⟨t', e⟩
theorem z_tests0 {cenv : Env} {Q : Bool → Shared → Prop} (h : Q true s) : Tests prog w A [] cenv Q E s := wpAny_pure h
theorem z_tests1' {c : Expr} {cenv : Env} {Q : Bool → Shared → Prop} (h : wpAny (model prog w) A (isTrue c cenv (eval c cenv)) Q E s) : Tests prog w A [c] cenv Q E s := by
  unfold Tests
  simp only [List.forIn_cons, List.forIn_nil, if_true]
  refine wpAny_bind (wpAny_bind (wpAny_mono h (fun ok s₁ h₁ => wpAny_pure ?_) fun _ _ x => x))
  exact wpAny_pure h₁
theorem z_tests1 {c : Expr} {cenv : Env} {Q : Bool → Shared → Prop} (h : ∀ K : Bool → Shared → Prop, Hid Q K → wpAny (model prog w) A (isTrue c cenv (eval c cenv)) K E s) : Tests prog w A [c] cenv Q E s := z_tests1' (h _ Hid.self)
section fa2
variable {prog : Program} {w : World} {A : Around} {E : Value → Shared → Prop} {s : Shared}
theorem z_it0 {value slice : Expr} {l : Addr} {a : Value} {vs : List Value} {u : Tok} {Q : Value → Shared → Prop} (hl : TA s.heap l (a :: vs)) (hsz : (a :: vs).length ≤ 1000) (h : Q a s)
    (hs : subscripted slice false (.ref l) (.int 0 u) = operate [.ref l, .int 0 u] (getItem (.ref l) (.int 0 u)) := by with_unfolding_all rfl) :
    wpAny (model prog w) A (subscriptTail value slice (.ref l) (.int 0 u)) Q E s := z_itemTA hl (x := a) rfl h (by decide) hsz hs
theorem z_it1 {value slice : Expr} {l : Addr} {a b : Value} {vs : List Value} {u : Tok} {Q : Value → Shared → Prop} (hl : TA s.heap l (a :: b :: vs)) (hsz : (a :: b :: vs).length ≤ 1000) (h : Q b s)
    (hs : subscripted slice false (.ref l) (.int 1 u) = operate [.ref l, .int 1 u] (getItem (.ref l) (.int 1 u)) := by with_unfolding_all rfl) :
    wpAny (model prog w) A (subscriptTail value slice (.ref l) (.int 1 u)) Q E s := z_itemTA hl (x := b) rfl h (by decide) hsz hs
theorem z_it2 {value slice : Expr} {l : Addr} {a b c : Value} {vs : List Value} {u : Tok} {Q : Value → Shared → Prop} (hl : TA s.heap l (a :: b :: c :: vs)) (hsz : (a :: b :: c :: vs).length ≤ 1000) (h : Q c s)
    (hs : subscripted slice false (.ref l) (.int 2 u) = operate [.ref l, .int 2 u] (getItem (.ref l) (.int 2 u)) := by with_unfolding_all rfl) :
    wpAny (model prog w) A (subscriptTail value slice (.ref l) (.int 2 u)) Q E s := z_itemTA hl (x := c) rfl h (by decide) hsz hs
end fa2
end fa

-- more steps
local macro_rules | `(tactic| ktr_rel) => `(tactic| first
  | (with_reducible first | refine z_dict0 ?_ | refine z_tests0 ?_ | refine z_Tuple ?_ | refine z_List ?_ | refine z_Slice ?_ | refine z_partN ?_ | refine z_partS ?_ | refine z_notNone ?_)
  | (with_reducible refine z_tests1 ?_; intro _ _)
  | ((with_reducible show wpAny _ _ (eval (Expr.ListComp _ [_] _ _) _) _ _ _); refine z_comp rfl (by decide) rfl (by decide) rfl ?_)
  | ((with_reducible show _ ≤ 1000 ∧ Mk _ _ _); refine ⟨Nat.le_of_ble_eq_true rfl, ?_⟩))

-- part BU
theorem St.into {H H₁ H' : Heap} {s s₁ s' : Shared} {dx : Addr} (x : St [] H s H₁ s₁) (y : St [dx] H₁ s₁ H' s') (h : s.heap.get? dx = none) : St [] H s H' s' where
  same := by obtain ⟨h, t, rfl⟩ := x.same; obtain ⟨h', t', rfl⟩ := y.same; exact ⟨h', t', rfl⟩
  kept := fun b o _ e => y.kept b o (fun q => by rw [List.mem_singleton.mp q, h] at e; cases e) (x.kept b o (by simp) e)
  alive := fun b e => x.alive b (y.alive b e)
  le := x.le.trans y.le
  le' := y.le'
  new := fun b o e => (y.new b o e).elim (fun e' => x.new b o e') (fun e' => .inr (x.alive b e'))
section bu
variable {prog : Program} {w : World} {A : Around} {E Q : Value → Shared → Prop} {s : Shared} {H : Heap}

theorem info_init {c gl cl : Value} {x dx : Addr} {R : Result → Shared → Prop} (g : Gl (hd.heap_1 w.params) H) (le : Le H s.heap) (hA : Ok A 2) (hx : H.get? x = some (instObj 224 dx)) (hdx : H.get? dx = none) (hod : s.heap.get? dx = some emptyDict)
    (h : ∀ s' od a, St [dx] H s H s' → s'.heap.get? dx = some od → NsObj od a 16 → a "glyph" = some gl → R (.ok (.ret .none)) s') :
    codeAny (model prog w) A (.call (.ref 207) ⟨[.ref x, c, gl, cl], []⟩) R s := by
  refine' code_enter (ms := [(dx, emptyDict)]) (binds := [("self", .ref x), ("code", c), ("glyph", gl), ("cluster", cl)]) g le (by simpa using ⟨hod, hdx⟩) (by simp) ?k6 ?k7 hA.room ?kb ?kk ?kn ?_ ?c1 ?c2 ?c3
  tb_rel
  intro L s₁ F
  have hn := NsObj.nil
  repeat ktr_rel
  rename Fz _ _ _ _ _ _ _ _ _ => F
  repeat ktr_rel
  exact h _ _ _ F.st (F.ml (dx, _) List.mem_cons_self) (by assumption) rfl

theorem info_new {c gl cl : Value} (g : Gl (hd.heap_1 w.params) H) (le : Le H s.heap) (hA : Ok A 3)
    (h : ∀ x dx od a s' H', s.heap.get? dx = none → St [] H s H' s' → H'.get? x = some (instObj 224 dx) → H'.get? dx = none → s'.heap.get? dx = some od → NsObj od a 16 → a "glyph" = some gl → Q (.ref x) s') :
    wpAny (model prog w) A (call (.ref 224) [c, gl, cl]) Q E s := by
  refine z_new (f := 207) g le (by k_is) (by k_is) (by k_is) fun x dx s₁ H₁ n1 n2 st hx hdx hod => ?_
  exact info_init (g.up st.le) st.le' hA.make hx hdx hod fun s' od a st' hod' hn hg => ⟨rfl, h x dx od a s' H₁ n2 (st.into st' n2) hx hdx hod' hn hg⟩

theorem buf_init {c : Value} {x dx : Addr} {R : Result → Shared → Prop} (g : Gl (hd.heap_1 w.params) H) (le : Le H s.heap) (hA : Ok A 2) (hx : H.get? x = some (instObj 277 dx)) (hdx : H.get? dx = none) (hod : s.heap.get? dx = some emptyDict)
    (h : ∀ s' od a, St [dx] H s H s' → s'.heap.get? dx = some od → NsObj od a 4 → a "row" = some c → R (.ok (.ret .none)) s') :
    codeAny (model prog w) A (.call (.ref 243) ⟨[.ref x, c], []⟩) R s := by
  refine' code_enter (ms := [(dx, emptyDict)]) (binds := [("self", .ref x), ("infos", c), ("is_backward", .bool false)]) g le (by simpa using ⟨hod, hdx⟩) (by simp) ?k6 ?k7 hA.room ?kb ?kk ?kn ?_ ?c1 ?c2 ?c3
  tb_rel
  intro L s₁ F
  have hn := NsObj.nil
  repeat ktr_rel
  rename Fz _ _ _ _ _ _ _ _ _ => F
  repeat ktr_rel
  exact h _ _ _ F.st (F.ml (dx, _) List.mem_cons_self) (by assumption) rfl

theorem buf_new {c : Value} (g : Gl (hd.heap_1 w.params) H) (le : Le H s.heap) (hA : Ok A 3)
    (h : ∀ x dx od a s' H', s.heap.get? dx = none → St [] H s H' s' → H'.get? x = some (instObj 277 dx) → H'.get? dx = none → s'.heap.get? dx = some od → NsObj od a 4 → a "row" = some c → Q (.ref x) s') :
    wpAny (model prog w) A (call (.ref 277) [c]) Q E s := by
  refine z_new (f := 243) g le (by k_is) (by k_is) (by k_is) fun x dx s₁ H₁ n1 n2 st hx hdx hod => ?_
  exact buf_init (g.up st.le) st.le' hA.make hx hdx hod fun s' od a st' hod' hn hg => ⟨rfl, h x dx od a s' H₁ n2 (st.into st' n2) hx hdx hod' hn hg⟩

def DOk (d : InfoD) : Prop := (0 ≤ d.glyph ∧ d.glyph < 6) ∧ (d.kind = "" ∨ d.kind = "zwj" ∨ d.kind = "zwnj" ∨ d.kind = "hidden") ∧ (d.mask = 1 ∨ d.mask = 2 ∨ d.mask = 3)

theorem pick_kind {d : Int} (h0 : 0 ≤ d) (h1 : d < 6) (t0 t1 t2 t3 t4 t5 : Tok) : ∃ k t, ([Value.str "" t0, .str "zwj" t1, .str "" t2, .str "zwnj" t3, .str "" t4, .str "hidden" t5] : List Value).toArray[d.toNat]? = some (.str k t) ∧ (k = "" ∨ k = "zwj" ∨ k = "zwnj" ∨ k = "hidden") := by
  have : d = 0 ∨ d = 1 ∨ d = 2 ∨ d = 3 ∨ d = 4 ∨ d = 5 := by omega
  rcases this with rfl | rfl | rfl | rfl | rfl | rfl
  · exact ⟨_, _, rfl, .inl rfl⟩
  · exact ⟨_, _, rfl, .inr (.inl rfl)⟩
  · exact ⟨_, _, rfl, .inl rfl⟩
  · exact ⟨_, _, rfl, .inr (.inr (.inl rfl))⟩
  · exact ⟨_, _, rfl, .inl rfl⟩
  · exact ⟨_, _, rfl, .inr (.inr (.inr rfl))⟩
theorem pick_mask {d : Int} (h0 : 0 ≤ d) (h1 : d < 3) (t0 t1 t2 : Tok) : ∃ k t, ([Value.int 1 t0, .int 3 t1, .int 2 t2] : List Value).toArray[d.toNat]? = some (.int k t) ∧ (k = 1 ∨ k = 2 ∨ k = 3) := by
  have : d = 0 ∨ d = 1 ∨ d = 2 := by omega
  rcases this with rfl | rfl | rfl
  · exact ⟨_, _, rfl, .inl rfl⟩
  · exact ⟨_, _, rfl, .inr (.inr rfl)⟩
  · exact ⟨_, _, rfl, .inr (.inl rfl)⟩

theorem buffer_spec {P : Addr} {o : Obj} {many : Nat} {tk : Tok} (g : Gl (hd.heap_1 w.params) H) (le : Le H s.heap) (hA : Ok A 5) (hP : s.heap.get? P = some o) (hH : H.get? P = none) (ho : PoolAt o) (hm : many ≤ 7)
    (h : ∀ ds x H' s' o', ds.length = many → (∀ d ∈ ds, DOk d) → St [P] H s H' s' → s'.heap.get? P = some o' → PoolAt o' → BufAt H' x ds → Q (.ref x) s') :
    wpAny (model prog w) A (call (.ref 439) [.ref P, .int many tk]) Q E s := by
  refine' z_enter (ms := [(P, o)]) (binds := [("pool", .ref P), ("many", .int many tk)]) g le (by simpa using ⟨hP, hH⟩) (by simp) ?k6 ?k7 hA.room ?kb ?kk ?kn ?_ ?c1 ?c2 ?c3
  tb_rel
  intro L s₁ F
  repeat ktr_rel
  rename Fz _ _ _ _ _ _ _ _ _ => F
  refine z_mk F ?_
  clear F
  intro R s₂ hR F
  repeat ktr_rel
  rename Fz _ _ _ _ _ _ _ _ _ => F
  refine z_range F ?_
  clear F
  intro r u v s₃ hr F
  have hr : IsRange s₃.heap r 0 (0 + (many : Int)) 1 u tk v := by rw [Int.zero_add]; exact F.ml (r, _) List.mem_cons_self
  have F := F.forget (pre := [])
  refine for_range hA.hh F hr (by decide) (by rw [sizeLine_eq]; omega) (by rfl)
    (fun i H' m' _ ms' => ∃ vs n o' ds, ms' = [(R, listOf (List.toArray vs) n), (P, o')] ∧ m' "rows" = some (.ref R) ∧ m' "pool" = some (.ref P) ∧ PoolAt o' ∧ All2 (InfoAt H') vs ds ∧ ds.length = i ∧ (∀ d ∈ ds, DOk d) ∧ Le H H')
    ⟨[], _, _, [], rfl, rfl, rfl, ho, .nil, rfl, by simp, .refl⟩ ?_ ?_
  · rintro i v I io H' m' cm' ms' s₄ E' hi ⟨t, rfl⟩ ⟨vs, n, o', ds, rfl, e1, e2, ho', hds, hlen, hok, le'⟩ F
    have g' := g.up le'
    clear g
    have F : Fz _ _ _ _ _ _ _ [(R, listOf (List.toArray vs) n), (P, o'), (I, io)] _ := F
    repeat ktr_rel
    rename Fz _ _ _ _ _ _ _ _ _ => F
    refine z_take (pre := [(R, _)]) F g' (hA.deeper.less (by omega)) ho' (by decide) (by decide) ?_
    clear F
    intro d t₁ o' s₅ d0 d1 ho' F
    repeat ktr_rel
    rename Fz _ _ _ _ _ _ _ _ _ => F
    refine info_new g' F.le (hA.deeper.less (by omega)) ?_
    intro x dx od a s₆ H₂ n1 st hx hdx hod hN hgl
    obtain ⟨F, hdx₀⟩ := F.made st n1 hdx hod
    have g₂ := g'.up st.le
    have hds := hds.mono fun _ _ => InfoAt.up st.le
    have le₂ := le'.trans st.le
    clear g' hod
    repeat ktr_rel
    rename Fz _ _ _ _ _ _ _ _ _ => F
    refine z_mk F ?_
    clear F
    intro T s₇ hT F
    repeat ktr_rel
    rename Fz _ _ _ _ _ _ _ _ _ => F
    refine z_take (pre := [(T, _), (dx, _), (R, _)]) F g₂ (hA.deeper.less (by omega)) ho' (by decide) (by decide) ?_
    clear F
    intro k t₂ o' s₈ k0 k1 ho' F
    obtain ⟨kd, tk', hk, hkd⟩ := pick_kind k0 k1 _ _ _ _ _ _
    refine z_itemTA (F.ml (T, _) List.mem_cons_self) hk ?_
    have F := F.forget (pre := [])
    repeat ktr_rel
    rename Fz _ _ _ _ _ _ _ _ _ => F
    refine z_mk F ?_
    clear F
    intro T s₇ hT F
    repeat ktr_rel
    rename Fz _ _ _ _ _ _ _ _ _ => F
    refine z_take (pre := [(T, _), (dx, _), (R, _)]) F g₂ (hA.deeper.less (by omega)) ho' (by decide) (by decide) ?_
    clear F
    intro k t₂ o' s₈ k0 k1 ho' F
    obtain ⟨mk, tk'', hk, hmk⟩ := pick_mask k0 k1 _ _ _
    refine z_itemTA (F.ml (T, _) List.mem_cons_self) hk ?_
    have F := F.forget (pre := [])
    repeat ktr_rel
    rename Fz _ _ _ _ _ _ _ _ _ => F
    refine z_lappend F.m1 ?_
    repeat ktr_rel
    rename Fz _ _ _ _ _ _ _ _ _ => F
    refine z_append (pre := [(dx, _)]) F (by have := hds.1; omega) ?_
    clear F
    intro n' s₉ F
    repeat ktr_rel
    rename Fz _ _ _ _ _ _ _ _ _ => F
    rename NsObj _ _ _ => hN
    obtain ⟨H₃, le₃, hdx₃, F⟩ := F.freeze hdx₀
    repeat ktr_rel
    refine ⟨H₃, _, _, [(R, listOf (List.toArray (vs ++ [.ref x])) n'), (P, o')], F, st.le.trans le₃, vs ++ [.ref x], n', o', ds ++ [⟨d, kd, mk⟩], rfl, ?_, ?_, ho', ?_, ?_, ?_, le₂.trans le₃⟩
    · assumption
    · assumption
    · exact (hds.mono fun _ _ => InfoAt.up le₃).snoc ⟨x, _, t₁, _, _, rfl, ⟨dx, _, _, le₃ _ _ hx, hdx₃, hN⟩, hgl, rfl, rfl⟩
    · simp [hlen]
    · intro d' hd'
      rcases List.mem_append.mp hd' with q | q
      · exact hok d' q
      · rw [List.mem_singleton.mp q]; exact ⟨⟨d0, d1⟩, hkd, hmk⟩
  · rintro H' m' cm' ms' s₄ ⟨vs, n, o', ds, rfl, e1, e2, ho', hds, hlen, hok, le'⟩ F
    have g' := g.up le'
    clear g
    repeat ktr_rel
    rename Fz _ _ _ _ _ _ _ _ _ => F
    refine buf_new g' F.le (hA.deeper.less (by omega)) ?_
    intro x dx od a s₆ H₂ n1 st hx hdx hod hN hrow
    obtain ⟨F, hdx₀⟩ := F.made st n1 hdx hod
    obtain ⟨H₃, le₃, hdx₃, F⟩ := F.freeze hdx₀
    obtain ⟨H₄, le₄, hR₄, F⟩ := F.freeze hR
    repeat ktr_rel
    exact h ds x H₄ _ o' hlen hok F.st F.m0 ho' ⟨a, R, vs, ⟨dx, od, _, le₄ _ _ (le₃ _ _ hx), le₄ _ _ hdx₃, hN⟩, hrow, ⟨_, hR₄, rfl, _, rfl⟩, hds.mono fun _ _ => InfoAt.up (st.le.trans (le₃.trans le₄))⟩
end bu

-- part GD
def PairV (H : Heap) (v : Value) (kv : Int × Value) : Prop := ∃ T kt, v = .ref T ∧ TA H T [.int kv.1 kt, kv.2]
theorem PairV.up {H H' : Heap} {v : Value} {kv : Int × Value} (k : Le H H') : PairV H v kv → PairV H' v kv := fun ⟨T, kt, e, h⟩ => ⟨T, kt, e, h.up k⟩
theorem pairs_of {H : Heap} {vs : List Value} {kvs : List (Int × Value)} (x : All2 (PairV H) vs kvs) (i : Nat) (v : Value) (hv : vs[i]? = some v) : ∃ T kk kt x, v = .ref T ∧ TA H T [.int kk kt, x] ∧ kvs[i]? = some (kk, x) := by
  have hi : i < kvs.length := by rw [← x.1]; exact (List.getElem?_eq_some_iff.mp hv).1
  have hk : kvs[i]? = some kvs[i] := List.getElem?_eq_getElem hi
  obtain ⟨T, kt, e, h⟩ := x.2 i v _ hv hk
  exact ⟨T, _, kt, _, e, h, hk⟩
theorem find_of_nodup : ∀ {kvs : List (Int × Value)} {kv : Int × Value}, (kvs.map (·.1)).Nodup → kv ∈ kvs → kvs.find? (fun e => e.1 = kv.1) = some kv
  | [], _, _, h => by simp at h
  | e :: r, kv, hn, h => by
    rw [List.map_cons] at hn
    obtain ⟨h1, h2⟩ := List.nodup_cons.mp hn
    rcases List.mem_cons.mp h with rfl | h
    · simp
    · have : e.1 ≠ kv.1 := fun q => h1 (by rw [q]; exact List.mem_map_of_mem h)
      rw [List.find?_cons_of_neg (by simpa using this)]
      exact find_of_nodup h2 h
section gd
variable {prog : Program} {w : World} {A : Around} {E Q : Value → Shared → Prop} {s : Shared} {H : Heap}
/-- the law's dict of classes -/
def ClassesAt (prog : Program) (w : World) (H : Heap) (d : Addr) (f : Int → Int) : Prop := (d == sysModules) = false ∧ ∃ kvs, H.DictOf (intKind prog w) d kvs ∧ kvs.map (·.1) = [0, 1, 2, 3, 4, 5] ∧ ∀ kv ∈ kvs, ∃ t, kv.2 = .int (f kv.1) t

theorem gdef_spec {P : Addr} {o : Obj} (g : Gl (hd.heap_1 w.params) H) (le : Le H s.heap) (hA : Ok A 5) (hP : s.heap.get? P = some o) (hH : H.get? P = none) (ho : PoolAt o)
    (h : ∀ f d H' s' o', (∀ g, 0 ≤ f g ∧ f g ≤ 3) → St [P] H s H' s' → s'.heap.get? P = some o' → PoolAt o' → ClassesAt prog w H' d f → Q (.ref d) s') :
    wpAny (model prog w) A (call (.ref 444) [.ref P]) Q E s := by
  refine' z_enter (ms := [(P, o)]) (binds := [("pool", .ref P)]) g le (by simpa using ⟨hP, hH⟩) (by simp) ?k6 ?k7 hA.room ?kb ?kk ?kn ?_ ?c1 ?c2 ?c3
  tb_rel
  intro L s₁ F
  repeat ktr_rel
  repeat ktr_rel
  rename Fz _ _ _ _ _ _ _ _ _ => F
  refine z_range F ?_
  clear F
  intro r u v s₂ hr F
  have hr : IsRange s₂.heap r 0 (0 + (6 : Nat)) 1 u _ v := F.ml (r, _) List.mem_cons_self
  have F := F.forget (pre := [])
  refine ready_range hA.hh F hr (by decide) ⟨by intro n c h; simp at h; obtain ⟨rfl, rfl⟩ := h; exact ⟨rfl, rfl⟩, by simp⟩ (by rw [sizeLine_eq]; decide)
    (fun i ys H' ms' => ∃ kvs o', ms' = [(P, o')] ∧ PoolAt o' ∧ All2 (PairV H') ys kvs ∧ kvs.map (·.1) = (List.range i).map (fun (j : Nat) => (j : Int)) ∧ ∀ kv ∈ kvs, ∃ c t, kv.2 = .int c t ∧ 0 ≤ c ∧ c ≤ 3)
    ⟨[], o, rfl, ho, .nil, rfl, by simp⟩ ?_ ?_
  · rintro i v ys H' ms' s₃ C mC E' hi ⟨t, rfl⟩ ⟨kvs, o', rfl, ho', hkv, hks, hvs⟩ le' e1 F
    have g' := g.up le'
    clear g
    repeat ktr_rel
    rename Fz _ _ _ _ _ _ _ _ _ => F
    refine z_take (pre := []) F g' (hA.deeper.less (by omega)) ho' (by decide) (by decide) ?_
    clear F
    intro k t₂ o' s₄ k0 k1 ho' F
    repeat ktr_rel
    rename Fz _ _ _ _ _ _ _ _ _ => F
    refine z_mkF F ?_
    clear F
    intro T s₅ H₂ le₂ hT F
    repeat ktr_rel
    refine ⟨H₂, [(P, o')], F, rfl, kvs ++ [((i : Int), .int k t₂)], o', rfl, ho', (hkv.mono fun _ _ => PairV.up le₂).snoc ⟨T, _, rfl, by simpa [TA] using hT⟩, ?_, ?_⟩
    · rw [List.map_append, hks, List.range_succ, List.map_append]; rfl
    · intro kv hkv
      rcases List.mem_append.mp hkv with q | q
      · exact hvs kv q
      · rw [List.mem_singleton.mp q]; exact ⟨k, t₂, rfl, k0, by omega⟩
  · rintro D C ys H' ms' nn co mC s₃ hD hC ⟨kvs, o', rfl, ho', hkv, hks, hvs⟩ le' - F hN
    refine ⟨mC, hN, fun h' hs => ?_⟩
    have F := F.endC hC hs
    have g' := g.up le'
    clear g
    repeat ktr_rel
    rename Fz _ _ _ _ _ _ _ _ _ => F
    refine z_dictOf F g' hA.hh ⟨nn, F.m0⟩ hkv.1.symm (by rw [hkv.1, ← List.length_map (f := (·.1)), hks]; decide) (pairs_of (hkv.mono fun _ _ => PairV.up F.le)) ?_
    intro d od s₅ hdS hd₀ hO F
    have hnd : (kvs.map (·.1)).Nodup := by rw [hks]; decide
    rw [merged_nil_of_nodup _ hnd] at hO
    obtain ⟨H₂, le₂, hd₂, F⟩ := F.freeze hd₀
    have F := F.forget (pre := [])
    repeat ktr_rel
    refine h (fun g => match valueAt kvs g with | some (.int c _) => c | _ => 0) d H₂ _ o' ?_ F.st F.m0 ho' ⟨hdS, kvs, hO.at hd₂, by rw [hks]; rfl, ?_⟩
    · intro g
      split
      · rename_i c t e
        unfold valueAt at e
        obtain ⟨kv, e1, e2⟩ := Option.map_eq_some_iff.mp e
        obtain ⟨c', t', e3, e4⟩ := hvs kv (List.mem_of_find?_eq_some e1)
        rw [e2] at e3
        cases e3
        exact e4
      · decide
    · intro kv hm
      obtain ⟨c, t, e, _⟩ := hvs kv hm
      refine ⟨t, ?_⟩
      have : valueAt kvs kv.1 = some kv.2 := by
        unfold valueAt
        have := find_of_nodup hnd hm
        rw [this]; rfl
      rw [e] at this
      dsimp only
      rw [this]; exact e
end gd

-- part SC
section sc
variable {prog : Program} {w : World} {A : Around} {E Q : Value → Shared → Prop} {s : Shared} {H : Heap}

theorem lk_init {c1 c2 c3 c4 : Value} {x dx : Addr} {R : Result → Shared → Prop} (g : Gl (hd.heap_1 w.params) H) (le : Le H s.heap) (hA : Ok A 2) (hx : H.get? x = some (instObj 43 dx)) (hdx : H.get? dx = none) (hod : s.heap.get? dx = some emptyDict)
    (h : ∀ s' od a, St [dx] H s H s' → s'.heap.get? dx = some od → NsObj od a 4 → a "flag" = some c2 → R (.ok (.ret .none)) s') :
    codeAny (model prog w) A (.call (.ref 35) ⟨[.ref x, c1, c2, c3, c4], []⟩) R s := by
  refine' code_enter (ms := [(dx, emptyDict)]) (binds := [("self", .ref x), ("kind", c1), ("flag", c2), ("mark_set", c3), ("tables", c4)]) g le (by simpa using ⟨hod, hdx⟩) (by simp) ?k6 ?k7 hA.room ?kb ?kk ?kn ?_ ?c1 ?c2 ?c3
  tb_rel
  intro L s₁ F
  have hn := NsObj.nil
  repeat ktr_rel
  rename Fz _ _ _ _ _ _ _ _ _ => F
  repeat ktr_rel
  exact h _ _ _ F.st F.m0 (by assumption) rfl
theorem lk_new {c1 c2 c3 c4 : Value} (g : Gl (hd.heap_1 w.params) H) (le : Le H s.heap) (hA : Ok A 3)
    (h : ∀ x dx od a s' H', s.heap.get? dx = none → St [] H s H' s' → H'.get? x = some (instObj 43 dx) → H'.get? dx = none → s'.heap.get? dx = some od → NsObj od a 4 → a "flag" = some c2 → Q (.ref x) s') :
    wpAny (model prog w) A (call (.ref 43) [c1, c2, c3, c4]) Q E s := by
  refine z_new (f := 35) g le (by k_is) (by k_is) (by k_is) fun x dx s₁ H₁ n1 n2 st hx hdx hod => ?_
  exact lk_init (g.up st.le) st.le' hA.make hx hdx hod fun s' od a st' hod' hn hg => ⟨rfl, h x dx od a s' H₁ n2 (st.into st' n2) hx hdx hod' hn hg⟩

theorem cd_init {c : Value} {x dx : Addr} {R : Result → Shared → Prop} (g : Gl (hd.heap_1 w.params) H) (le : Le H s.heap) (hA : Ok A 2) (hx : H.get? x = some (instObj 324 dx)) (hdx : H.get? dx = none) (hod : s.heap.get? dx = some emptyDict)
    (h : ∀ s' od a, St [dx] H s H s' → s'.heap.get? dx = some od → NsObj od a 1 → a "classes" = some c ∧ a "class_of" = none → R (.ok (.ret .none)) s') :
    codeAny (model prog w) A (.call (.ref 295) ⟨[.ref x, c], []⟩) R s := by
  refine' code_enter (ms := [(dx, emptyDict)]) (binds := [("self", .ref x), ("classes", c)]) g le (by simpa using ⟨hod, hdx⟩) (by simp) ?k6 ?k7 hA.room ?kb ?kk ?kn ?_ ?c1 ?c2 ?c3
  tb_rel
  intro L s₁ F
  have hn := NsObj.nil
  repeat ktr_rel
  rename Fz _ _ _ _ _ _ _ _ _ => F
  repeat ktr_rel
  exact h _ _ _ F.st F.m0 (by assumption) ⟨rfl, rfl⟩
theorem cd_new {c : Value} (g : Gl (hd.heap_1 w.params) H) (le : Le H s.heap) (hA : Ok A 3)
    (h : ∀ x dx od a s' H', s.heap.get? dx = none → St [] H s H' s' → H'.get? x = some (instObj 324 dx) → H'.get? dx = none → s'.heap.get? dx = some od → NsObj od a 1 → a "classes" = some c ∧ a "class_of" = none → Q (.ref x) s') :
    wpAny (model prog w) A (call (.ref 324) [c]) Q E s := by
  refine z_new (f := 295) g le (by k_is) (by k_is) (by k_is) fun x dx s₁ H₁ n1 n2 st hx hdx hod => ?_
  exact cd_init (g.up st.le) st.le' hA.make hx hdx hod fun s' od a st' hod' hn hg => ⟨rfl, h x dx od a s' H₁ n2 (st.into st' n2) hx hdx hod' hn hg⟩

theorem gd_init {c1 c2 c3 : Value} {x dx : Addr} {R : Result → Shared → Prop} (g : Gl (hd.heap_1 w.params) H) (le : Le H s.heap) (hA : Ok A 2) (hx : H.get? x = some (instObj 421 dx)) (hdx : H.get? dx = none) (hod : s.heap.get? dx = some emptyDict)
    (h : ∀ s' od a, St [dx] H s H s' → s'.heap.get? dx = some od → NsObj od a 5 → a "classes" = some c1 ∧ a "glyph_class" = none → R (.ok (.ret .none)) s') :
    codeAny (model prog w) A (.call (.ref 392) ⟨[.ref x, c1, c2, c3], []⟩) R s := by
  refine' code_enter (ms := [(dx, emptyDict)]) (binds := [("self", .ref x), ("classes", c1), ("attach", c2), ("sets", c3), ("points", .none), ("carets", .none)]) g le (by simpa using ⟨hod, hdx⟩) (by simp) ?k6 ?k7 hA.room ?kb ?kk ?kn ?_ ?c1 ?c2 ?c3
  tb_rel
  intro L s₁ F
  have hn := NsObj.nil
  repeat ktr_rel
  rename Fz _ _ _ _ _ _ _ _ _ => F
  refine z_mk F ?_
  clear F
  intro T s₂ hT F
  have F := F.swap
  repeat ktr_rel
  rename Fz _ _ _ _ _ _ _ _ _ => F
  refine z_mk F ?_
  clear F
  intro T s₂ hT F
  have F := F.swap
  repeat ktr_rel
  rename Fz _ _ _ _ _ _ _ _ _ => F
  have F := F.forget (pre := [_])
  have F := F.forget (pre := [_])
  repeat ktr_rel
  exact h _ _ _ F.st F.m0 (by assumption) ⟨rfl, rfl⟩
theorem gd_new {c1 c2 c3 : Value} (g : Gl (hd.heap_1 w.params) H) (le : Le H s.heap) (hA : Ok A 3)
    (h : ∀ x dx od a s' H', s.heap.get? dx = none → St [] H s H' s' → H'.get? x = some (instObj 421 dx) → H'.get? dx = none → s'.heap.get? dx = some od → NsObj od a 5 → a "classes" = some c1 ∧ a "glyph_class" = none → Q (.ref x) s') :
    wpAny (model prog w) A (call (.ref 421) [c1, c2, c3]) Q E s := by
  refine z_new (f := 392) g le (by k_is) (by k_is) (by k_is) fun x dx s₁ H₁ n1 n2 st hx hdx hod => ?_
  exact gd_init (g.up st.le) st.le' hA.make hx hdx hod fun s' od a st' hod' hn hg => ⟨rfl, h x dx od a s' H₁ n2 (st.into st' n2) hx hdx hod' hn hg⟩

theorem sc_init {c1 c2 c3 c4 c5 c6 : Value} {x dx : Addr} {R : Result → Shared → Prop} (g : Gl (hd.heap_1 w.params) H) (le : Le H s.heap) (hA : Ok A 2) (hx : H.get? x = some (instObj 65 dx)) (hdx : H.get? dx = none) (hod : s.heap.get? dx = some emptyDict)
    (h : ∀ s' od a, St [dx] H s H s' → s'.heap.get? dx = some od → NsObj od a 7 → a "buffer" = some c1 ∧ a "gdef" = some c2 ∧ a "lookup" = some c4 ∧ a "mask" = some c5 → R (.ok (.ret .none)) s') :
    codeAny (model prog w) A (.call (.ref 62) ⟨[.ref x, c1, c2, c3, c4, c5, c6], []⟩) R s := by
  refine' code_enter (ms := [(dx, emptyDict)]) (binds := [("self", .ref x), ("buffer", c1), ("gdef", c2), ("lookups", c3), ("lookup", c4), ("mask", c5), ("depth", c6)]) g le (by simpa using ⟨hod, hdx⟩) (by simp) ?k6 ?k7 hA.room ?kb ?kk ?kn ?_ ?c1 ?c2 ?c3
  tb_rel
  intro L s₁ F
  have hn := NsObj.nil
  repeat ktr_rel
  rename Fz _ _ _ _ _ _ _ _ _ => F
  refine z_mk F ?_
  clear F
  intro T s₂ hT F
  have F := F.swap
  repeat ktr_rel
  rename Fz _ _ _ _ _ _ _ _ _ => F
  have F := F.forget (pre := [_])
  repeat ktr_rel
  exact h _ _ _ F.st F.m0 (by assumption) ⟨rfl, rfl, rfl, rfl⟩
theorem sc_new {c1 c2 c3 c4 c5 c6 : Value} (g : Gl (hd.heap_1 w.params) H) (le : Le H s.heap) (hA : Ok A 3)
    (h : ∀ x dx od a s' H', s.heap.get? dx = none → St [] H s H' s' → H'.get? x = some (instObj 65 dx) → H'.get? dx = none → s'.heap.get? dx = some od → NsObj od a 7 → a "buffer" = some c1 ∧ a "gdef" = some c2 ∧ a "lookup" = some c4 ∧ a "mask" = some c5 → Q (.ref x) s') :
    wpAny (model prog w) A (call (.ref 65) [c1, c2, c3, c4, c5, c6]) Q E s := by
  refine z_new (f := 62) g le (by k_is) (by k_is) (by k_is) fun x dx s₁ H₁ n1 n2 st hx hdx hod => ?_
  exact sc_init (g.up st.le) st.le' hA.make hx hdx hod fun s' od a st' hod' hn hg => ⟨rfl, h x dx od a s' H₁ n2 (st.into st' n2) hx hdx hod' hn hg⟩

theorem pick_flag {d : Int} (h0 : 0 ≤ d) (h1 : d < 6) (t0 t1 t2 t3 t4 t5 : Tok) : ∃ k t, ([Value.int 0 t0, .int 8 t1, .int 2 t2, .int 4 t3, .int 12 t4, .int 14 t5] : List Value).toArray[d.toNat]? = some (.int k t) ∧ (k = 0 ∨ k = 8 ∨ k = 2 ∨ k = 4 ∨ k = 12 ∨ k = 14) := by
  have : d = 0 ∨ d = 1 ∨ d = 2 ∨ d = 3 ∨ d = 4 ∨ d = 5 := by omega
  rcases this with rfl | rfl | rfl | rfl | rfl | rfl <;> exact ⟨_, _, rfl, by decide⟩

theorem lookup_spec {P : Addr} {o : Obj} (g : Gl (hd.heap_1 w.params) H) (le : Le H s.heap) (hA : Ok A 5) (hP : s.heap.get? P = some o) (hH : H.get? P = none) (ho : PoolAt o)
    (h : ∀ flag x H' s' o', (flag = 0 ∨ flag = 8 ∨ flag = 2 ∨ flag = 4 ∨ flag = 12 ∨ flag = 14) → St [P] H s H' s' → s'.heap.get? P = some o' → PoolAt o' → LookAt H' x flag → Q (.ref x) s') :
    wpAny (model prog w) A (call (.ref 451) [.ref P]) Q E s := by
  refine' z_enter (ms := [(P, o)]) (binds := [("pool", .ref P)]) g le (by simpa using ⟨hP, hH⟩) (by simp) ?k6 ?k7 hA.room ?kb ?kk ?kn ?_ ?c1 ?c2 ?c3
  tb_rel
  intro L s₁ F
  repeat ktr_rel
  rename Fz _ _ _ _ _ _ _ _ _ => F
  refine z_mk F ?_
  clear F
  intro T s₂ hT F
  repeat ktr_rel
  rename Fz _ _ _ _ _ _ _ _ _ => F
  refine z_take (pre := [(T, _)]) F g (hA.deeper.less (by omega)) ho (by decide) (by decide) ?_
  clear F
  intro k t₂ o' s₈ k0 k1 ho' F
  obtain ⟨fl, tk', hk, hfl⟩ := pick_flag k0 k1 _ _ _ _ _ _
  refine z_itemTA F.m0 hk ?_
  have F := F.forget (pre := [])
  repeat ktr_rel
  rename Fz _ _ _ _ _ _ _ _ _ => F
  refine z_mk F ?_
  clear F
  intro T s₂ hT F
  repeat ktr_rel
  rename Fz _ _ _ _ _ _ _ _ _ => F
  refine lk_new g F.le (hA.deeper.less (by omega)) ?_
  intro x dx od a s₆ H₂ n1 st hx hdx hod hN ha
  obtain ⟨H₃, le₃, I, F⟩ := F.inst st n1 hx hdx hod hN
  repeat ktr_rel
  exact h fl x H₃ _ o' hfl F.st F.m1 ho' ⟨a, _, I, ha⟩
end sc

-- part SD
section sd
variable {prog : Program} {w : World} {A : Around} {E Q : Value → Shared → Prop} {s : Shared} {H : Heap}

theorem ClassesAt.val {d : Addr} {f : Int → Int} (x : ClassesAt prog w H d f) : ∃ kvs, H.DictOf (intKind prog w) d kvs ∧ kvs.map (·.1) = [0, 1, 2, 3, 4, 5] ∧ (∀ kv ∈ kvs, ∃ t, kv.2 = .int (f kv.1) t) ∧ ∀ g, 0 ≤ g → g < 6 → ∃ t, valueAt kvs g = some (.int (f g) t) := by
  obtain ⟨_, kvs, hd, hk, hv⟩ := x
  refine ⟨kvs, hd, hk, hv, fun g h0 h1 => ?_⟩
  have hm : g ∈ kvs.map (·.1) := by
    rw [hk]
    have : g = 0 ∨ g = 1 ∨ g = 2 ∨ g = 3 ∨ g = 4 ∨ g = 5 := by omega
    rcases this with rfl | rfl | rfl | rfl | rfl | rfl <;> decide
  obtain ⟨kv, hkv, rfl⟩ := List.mem_map.mp hm
  obtain ⟨t, e⟩ := hv kv hkv
  refine ⟨t, ?_⟩
  unfold valueAt
  rw [find_of_nodup (by rw [hk]; decide) hkv]
  simp [e]

def fin6 (f : Int → Int) (g : Int) : Int := if 0 ≤ g ∧ g < 6 then f g else 0

theorem tab_of {kvs : List (Int × Value)} {f : Int → Int} (hk : kvs.map (·.1) = [0, 1, 2, 3, 4, 5]) (hv : ∀ kv ∈ kvs, ∃ t, kv.2 = .int (f kv.1) t) (hf : ∀ g, 0 ≤ f g) (g : Int) :
    (∃ t, valueAt (kvs.filter fun kv => decide (0 < f kv.1)) g = some (.int (fin6 f g) t)) ∨ (valueAt (kvs.filter fun kv => decide (0 < f kv.1)) g = none ∧ fin6 f g = 0) := by
  have hnd : (kvs.map (·.1)).Nodup := by rw [hk]; decide
  have hnd' : ((kvs.filter fun kv => decide (0 < f kv.1)).map (·.1)).Nodup := (List.Sublist.map _ (List.filter_sublist)).nodup hnd
  have out : (∀ kv ∈ kvs.filter (fun kv => decide (0 < f kv.1)), kv.1 ≠ g) → valueAt (kvs.filter fun kv => decide (0 < f kv.1)) g = none := fun h => by
    unfold valueAt
    rw [List.find?_eq_none.mpr (fun kv hkv => by simpa using h kv hkv)]; rfl
  by_cases hg : 0 ≤ g ∧ g < 6
  · have hm : g ∈ kvs.map (·.1) := by
      rw [hk]
      have : g = 0 ∨ g = 1 ∨ g = 2 ∨ g = 3 ∨ g = 4 ∨ g = 5 := by omega
      rcases this with rfl | rfl | rfl | rfl | rfl | rfl <;> decide
    obtain ⟨kv, hkv, rfl⟩ := List.mem_map.mp hm
    by_cases hp : 0 < f kv.1
    · left
      obtain ⟨t, e⟩ := hv kv hkv
      refine ⟨t, ?_⟩
      have hmem : kv ∈ kvs.filter (fun kv => decide (0 < f kv.1)) := List.mem_filter.mpr ⟨hkv, by simpa using hp⟩
      unfold valueAt
      rw [find_of_nodup hnd' hmem]
      simp [e, fin6, hg]
    · right
      refine ⟨out fun kv' hkv' => ?_, ?_⟩
      · obtain ⟨h1, h2⟩ := List.mem_filter.mp hkv'
        intro q
        rw [q] at h2
        exact hp (by simpa using h2)
      · have := hf kv.1
        unfold fin6
        rw [if_pos hg]; omega
  · right
    refine ⟨out fun kv' hkv' q => ?_, by unfold fin6; rw [if_neg hg]⟩
    obtain ⟨h1, _⟩ := List.mem_filter.mp hkv'
    have : kv'.1 ∈ kvs.map (·.1) := List.mem_map_of_mem h1
    rw [hk, q] at this
    simp at this
    omega

theorem scene_spec {b d y : Addr} {ds : List InfoD} {f : Int → Int} {flag mask depth : Int} {tm td : Tok} (g : Gl (hd.heap_1 w.params) H) (le : Le H s.heap) (hA : Ok A 5)
    (hb : BufAt H b ds) (hf : ∀ g, 0 ≤ f g ∧ f g ≤ 3) (hd : ClassesAt prog w H d f) (hy : LookAt H y flag) (hfl : flag = 0 ∨ flag = 8 ∨ flag = 2 ∨ flag = 4 ∨ flag = 12 ∨ flag = 14)
    (h : ∀ x H' s', St [] H s H' s' → SceneAt prog w H' x ⟨ds, fin6 f, flag, mask⟩ → Q (.ref x) s') :
    wpAny (model prog w) A (call (.ref 456) [.ref b, .ref d, .ref y, .int mask tm, .int depth td]) Q E s := by
  refine' z_enter (ms := []) (binds := [("rows", .ref b), ("classes", .ref d), ("lookup", .ref y), ("mask", .int mask tm), ("depth", .int depth td)]) g le (by simp) (by simp) ?k6 ?k7 hA.room ?kb ?kk ?kn ?_ ?c1 ?c2 ?c3
  tb_rel
  intro L s₁ F
  obtain ⟨kvs, hD, hk, hv, hval⟩ := hd.val
  have hdS := hd.1
  obtain ⟨ep, hDat⟩ := hD.dictAt
  repeat ktr_rel
  rename Fz _ _ _ _ _ _ _ _ _ => F
  have hklen : kvs.length = 6 := by rw [← List.length_map (f := (·.1)), hk]; rfl
  refine ready_dict hA.hh F hDat hdS ⟨by intro n c h; simp at h; obtain ⟨rfl, rfl⟩ := h; exact ⟨rfl, rfl⟩, by simp⟩ (by rw [hklen, sizeLine_eq]; decide)
    (fun i ys H' ms' => ms' = [] ∧ All2 (PairV H') ys ((kvs.take i).filter fun kv => decide (0 < f kv.1)))
    ⟨rfl, .nil⟩ ?_ ?_
  · rintro i v ys H' ms' s₃ C mC E' hi ⟨k, x, hx, hkv⟩ ⟨rfl, hy'⟩ le' e1 F
    obtain ⟨kt, rfl⟩ := Value.isInt_shape (show Value.isInt k v = true from hkv)
    have hmem : (k, x) ∈ kvs := List.mem_of_getElem? hx
    have hk6 : 0 ≤ k ∧ k < 6 := by
      have : k ∈ kvs.map (·.1) := List.mem_map_of_mem (f := (·.1)) hmem
      rw [hk] at this
      simp at this
      omega
    obtain ⟨t, hvk⟩ := hval k hk6.1 hk6.2
    have hD' := dic_up le' hD
    repeat ktr_rel
    rename Fz _ _ _ _ _ _ _ _ _ => F
    refine z_itemD F (dic_up F.le hD') hvk ?_
    clear F
    intro s₄ F
    repeat ktr_rel
    have htake : kvs.take (i + 1) = kvs.take i ++ [(k, x)] := by rw [List.take_add_one, hx]; rfl
    refine z_if (fun hb => ?_) (fun hb => ?_)
    · have hb' : 0 < f k := of_decide_eq_true hb
      repeat ktr_rel
      rename Fz _ _ _ _ _ _ _ _ _ => F
      refine z_itemD F (dic_up F.le hD') hvk ?_
      clear F
      intro s₅ F
      repeat ktr_rel
      rename Fz _ _ _ _ _ _ _ _ _ => F
      refine z_mkF F ?_
      clear F
      intro T s₆ H₂ le₂ hT F
      repeat ktr_rel
      refine ⟨H₂, [], F, rfl, rfl, ?_⟩
      rw [htake, List.filter_append, List.filter_cons, if_pos (by simpa using hb')]
      obtain ⟨tx, ex⟩ := hv (k, x) hmem
      have : x = .int (f k) tx := ex
      refine (hy'.mono fun _ _ => PairV.up le₂).snoc ⟨T, kt, rfl, ?_⟩
      have e2 : valueAt kvs k = some x := by
        unfold valueAt
        have hnd : (kvs.map (·.1)).Nodup := by rw [hk]; decide
        rw [find_of_nodup (kv := (k, x)) hnd hmem]; rfl
      rw [hvk] at e2
      rw [← Option.some.inj e2]
      exact hT
    · rename Fz _ _ _ _ _ _ _ _ _ => F
      repeat ktr_rel
      refine ⟨H', [], F, rfl, rfl, ?_⟩
      have hb' : ¬ 0 < f k := fun q => hb (decide_eq_true q)
      rw [htake, List.filter_append, List.filter_cons, if_neg (by simpa using hb'), List.filter_nil, List.append_nil]
      exact hy'
  · rintro D C ys H' ms' nn co mC s₃ hD₀ hC ⟨rfl, hy'⟩ le' - F hN
    rw [List.take_length] at hy'
    refine ⟨mC, hN, fun h' hs => ?_⟩
    have F := F.endC hC hs
    have g' := g.up le'
    clear g
    repeat ktr_rel
    rename Fz _ _ _ _ _ _ _ _ _ => F
    have hlen6 : ys.length ≤ 6 := by rw [hy'.1, ← hklen]; exact List.length_filter_le _ _
    refine z_dictOf F g' hA.hh ⟨nn, F.m0⟩ hy'.1.symm (by omega) (pairs_of (hy'.mono fun _ _ => PairV.up F.le)) ?_
    intro d1 od s₅ hdS1 hd₀ hO F
    have hnd : (kvs.map (·.1)).Nodup := by rw [hk]; decide
    have hnd' : ((kvs.filter fun kv => decide (0 < f kv.1)).map (·.1)).Nodup := (List.Sublist.map _ (List.filter_sublist)).nodup hnd
    rw [merged_nil_of_nodup _ hnd'] at hO
    obtain ⟨H₂, le₂, hd₂, F⟩ := F.freeze hd₀
    have F := F.forget (pre := [])
    have hTab : TabOf prog w H₂ d1 (fin6 f) := ⟨hdS1, _, hO.at hd₂, tab_of hk hv fun g => (hf g).1⟩
    have g₂ := g'.up le₂
    clear g'
    repeat ktr_rel
    rename Fz _ _ _ _ _ _ _ _ _ => F
    refine cd_new g₂ F.le (hA.deeper.less (by omega)) ?_
    intro x1 dx1 od1 a1 s₆ H₃ n1 st hx hdx hod hN1 ha1
    obtain ⟨H₃, le₃, I1, F⟩ := F.inst st n1 hx hdx hod hN1
    have hCls : ClsAt prog w H₃ x1 (fin6 f) := ⟨a1, d1, I1, ha1.1, ha1.2, hTab.1, let ⟨kvs, hd, r⟩ := hTab.2; ⟨kvs, dic_up le₃ hd, r⟩⟩
    have g₃ := g₂.up le₃
    clear g₂
    repeat ktr_rel
    rename Fz _ _ _ _ _ _ _ _ _ => F
    refine z_mk F ?_
    clear F
    intro T1 s₇ hT1 F
    repeat ktr_rel
    rename Fz _ _ _ _ _ _ _ _ _ => F
    refine cd_new g₃ F.le (hA.deeper.less (by omega)) ?_
    intro x2 dx2 od2 a2 s₆ H₄ n1 st hx hdx hod hN2 ha2
    obtain ⟨H₄, le₄, I2, F⟩ := F.inst st n1 hx hdx hod hN2
    have g₄ := g₃.up le₄
    clear g₃
    repeat ktr_rel
    rename Fz _ _ _ _ _ _ _ _ _ => F
    refine z_mk F ?_
    clear F
    intro T2 s₇ hT2 F
    repeat ktr_rel
    rename Fz _ _ _ _ _ _ _ _ _ => F
    refine gd_new g₄ F.le (hA.deeper.less (by omega)) ?_
    intro x3 dx3 od3 a3 s₆ H₅ n1 st hx hdx hod hN3 ha3
    obtain ⟨H₅, le₅, I3, F⟩ := F.inst st n1 hx hdx hod hN3
    have g₅ := g₄.up le₅
    clear g₄
    repeat ktr_rel
    rename Fz _ _ _ _ _ _ _ _ _ => F
    refine z_mk F ?_
    clear F
    intro T3 s₇ hT3 F
    repeat ktr_rel
    rename Fz _ _ _ _ _ _ _ _ _ => F
    refine sc_new g₅ F.le (hA.deeper.less (by omega)) ?_
    intro x4 dx4 od4 a4 s₆ H₆ n1 st hx hdx hod hN4 ha4
    obtain ⟨H₆, le₆, I4, F⟩ := F.inst st n1 hx hdx hod hN4
    have l46 := (le₄.trans le₅).trans le₆
    have lall := le'.trans (le₂.trans (le₃.trans l46))
    have hCls' : ClsAt prog w H₆ x1 (fin6 f) := by
      obtain ⟨a, d, I, e1, e2, hS, kv, hd, r⟩ := hCls
      exact ⟨a, d, I.up l46, e1, e2, hS, kv, dic_up l46 hd, r⟩
    repeat ktr_rel
    refine h x4 H₆ _ F.st ⟨⟨a4, b, x3, y, tm, I4, ha4.1, ha4.2.1, ha4.2.2.1, ha4.2.2.2, BufAt.up lall hb, ⟨a3, x1, I3.up le₆, ha3.1, ha3.2, hCls'⟩, ?_⟩, fun g => ?_, hfl⟩
    · obtain ⟨a, t, I, e⟩ := hy
      exact ⟨a, t, I.up lall, e⟩
    · show 0 ≤ fin6 f g ∧ fin6 f g ≤ 3
      unfold fin6
      split
      · exact hf g
      · decide
end sd

-- part SN
def gAt (ds : List InfoD) (i : Nat) : Int := match ds[i]? with | some d => d.glyph | none => 0
def kAt (ds : List InfoD) (i : Nat) : Str := match ds[i]? with | some d => d.kind | none => ""
def mAt (ds : List InfoD) (i : Nat) : Int := match ds[i]? with | some d => d.mask | none => 0
def toI (l : List Nat) : List Int := l.map fun (j : Nat) => (j : Int)
def seenP (ds : List InfoD) (ign : Int → Bool) : List Nat := (List.range ds.length).filter fun i => !ign (gAt ds i)
def ignP (flag : Int) (f : Int → Int) (g : Int) : Bool := Builtin.bitAnd flag (bitOf (f g)) != 0

section sn
variable {prog : Program} {w : World} {A : Around} {E Q : Value → Shared → Prop} {s : Shared} {H : Heap}

theorem pick_bit {c : Int} (h0 : 0 ≤ c) (h1 : c ≤ 3) (t0 t1 t2 t3 : Tok) : ∃ t, ([Value.int 0 t0, .int 2 t1, .int 4 t2, .int 8 t3] : List Value).toArray[c.toNat]? = some (.int (bitOf c) t) := by
  have : c = 0 ∨ c = 1 ∨ c = 2 ∨ c = 3 := by omega
  rcases this with rfl | rfl | rfl | rfl <;> exact ⟨_, rfl⟩

theorem seen_spec {b d : Addr} {ds : List InfoD} {f : Int → Int} {flag : Int} {tf : Tok} (g : Gl (hd.heap_1 w.params) H) (le : Le H s.heap) (hA : Ok A 5)
    (hb : BufAt H b ds) (hds : ∀ d ∈ ds, DOk d) (hlen : ds.length ≤ 7) (hf : ∀ g, 0 ≤ f g ∧ f g ≤ 3) (hd : ClassesAt prog w H d f)
    (h : ∀ v H' s', St [] H s H' s' → IL H' v (toI (seenP ds (ignP flag f))) → Q v s') :
    wpAny (model prog w) A (call (.ref 461) [.ref b, .ref d, .int flag tf]) Q E s := by
  refine' z_enter (ms := []) (binds := [("rows", .ref b), ("classes", .ref d), ("flag", .int flag tf)]) g le (by simp) (by simp) ?k6 ?k7 hA.room ?kb ?kk ?kn ?_ ?c1 ?c2 ?c3
  tb_rel
  intro L s₁ F
  obtain ⟨kvs, hD, hk, hv, hval⟩ := hd.val
  obtain ⟨a, l, vs, I, hrow, hl, hvs⟩ := hb
  repeat ktr_rel
  rename Fz _ _ _ _ _ _ _ _ _ => F
  refine z_mkF F ?_
  clear F
  intro T s₂ H₁ le₁ hT F
  have g₁ := g.up le₁
  have I₁ := I.up le₁
  have hl₁ := lst_up le₁ hl
  clear g
  repeat ktr_rel
  rename Fz _ _ _ _ _ _ _ _ _ => F
  refine z_len F (F.lst hl₁) (by rw [List.size_toArray, hvs.1, sizeLine_eq]; omega) ?_
  clear F
  intro t₁ s₃ F
  rw [List.size_toArray, hvs.1]
  repeat ktr_rel
  rename Fz _ _ _ _ _ _ _ _ _ => F
  refine z_range F ?_
  clear F
  intro r u v s₂ hr F
  refine ready_range0 hA.hh F ⟨by intro n c h; simp at h; rcases h with ⟨rfl, rfl⟩ | ⟨rfl, rfl⟩ | ⟨rfl, rfl⟩ | ⟨rfl, rfl⟩ <;> exact ⟨rfl, rfl⟩, by simp⟩ (by omega)
    (fun i ys H' ms' => ms' = [] ∧ IntsAre ys (toI ((List.range i).filter fun i => !ignP flag f (gAt ds i))))
    ⟨rfl, .nil⟩ ?_ ?_
  · rintro i v ys H' ms' s₃ C mC E' hi ⟨t, hv'⟩ ⟨rfl, hy'⟩ le' e1 F
    subst hv'
    have g' := g₁.up le'
    have I' := I₁.up le'
    have hl' := lst_up le' hl₁
    have hT' := TA.up hT le'
    have leH := le₁.trans le'
    have hdi : ds[i]? = some ds[i] := List.getElem?_eq_getElem hi
    obtain ⟨vi, hvi, hin⟩ := hvs.get hdi
    obtain ⟨x, ax, tt1, tt2, tt3, rfl, Ix, hg1, hg2, hg3⟩ := hin
    have Ix' := Ix.up leH
    have hok := hds _ (List.mem_of_getElem? hdi)
    obtain ⟨tv, hvk⟩ := hval _ hok.1.1 hok.1.2
    have hgi : gAt ds i = ds[i].glyph := by unfold gAt; rw [hdi]
    clear g₁ I₁
    repeat ktr_rel
    rename Fz _ _ _ _ _ _ _ _ _ => F
    refine z_itemL (F.lst hl') (x := .ref x) (by simpa using hvi) ?_ (by omega) (by rw [hvs.1]; omega)
    repeat ktr_rel
    rename Fz _ _ _ _ _ _ _ _ _ => F
    refine z_itemD F (dic_up F.le (dic_up leH hD)) hvk ?_
    clear F
    intro s₄ F
    have hfg := hf ds[i].glyph
    obtain ⟨tb, hbk⟩ := pick_bit hfg.1 hfg.2 _ _ _ _
    refine z_itemTA (hT'.up F.le) hbk ?_ hfg.1
    repeat ktr_rel
    refine z_if (fun hb => ?_) (fun hb => ?_)
    · repeat ktr_rel
      rename Fz _ _ _ _ _ _ _ _ _ => F
      repeat ktr_rel
      refine ⟨H', [], F, rfl, rfl, ?_⟩
      have hc : (!ignP flag f (gAt ds i)) = true := by
        rw [hgi]; unfold ignP; simpa using hb
      rw [List.range_succ, List.filter_append, List.filter_cons, if_pos hc, List.filter_nil]
      unfold toI
      rw [List.map_append]
      exact IntsAre.snoc hy' _ _
    · rename Fz _ _ _ _ _ _ _ _ _ => F
      repeat ktr_rel
      refine ⟨H', [], F, rfl, rfl, ?_⟩
      have hc : ¬ (!ignP flag f (gAt ds i)) = true := by
        rw [hgi]; unfold ignP; simpa using hb
      rw [List.range_succ, List.filter_append, List.filter_cons, if_neg hc, List.filter_nil, List.append_nil]
      exact hy'
  · rintro D C ys H' ms' nn co mC s₃ hD₀ hC ⟨rfl, hy'⟩ le' - F hN
    refine ⟨mC, hN, fun h' hs => ?_⟩
    have F := F.endC hC hs
    obtain ⟨H₂, le₂, hd₂, F⟩ := F.freeze hD₀
    repeat ktr_rel
    exact h _ H₂ _ F.st ⟨D, ys, rfl, ⟨nn, hd₂⟩, hy'⟩
end sn

-- decided branches, places of tuples
local macro_rules | `(tactic| ktr_rel) => `(tactic| first
  | ((with_reducible show ite _ _ _); first | refine (if_pos (by decide)).mpr ?_ | refine (if_neg (by decide)).mpr ?_)
  | ((with_reducible show wpAny _ _ (subscriptTail _ _ (Value.ref _) (Value.int 0 _)) _ _ _); (rename Fz _ _ _ _ _ _ _ _ _ => zF); refine z_it0 (by exact TA.up (by assumption) zF.le) (Nat.le_of_ble_eq_true rfl) ?_)
  | ((with_reducible show wpAny _ _ (subscriptTail _ _ (Value.ref _) (Value.int 1 _)) _ _ _); (rename Fz _ _ _ _ _ _ _ _ _ => zF); refine z_it1 (by exact TA.up (by assumption) zF.le) (Nat.le_of_ble_eq_true rfl) ?_)
  | ((with_reducible show wpAny _ _ (subscriptTail _ _ (Value.ref _) (Value.int 2 _)) _ _ _); (rename Fz _ _ _ _ _ _ _ _ _ => zF); refine z_it2 (by exact TA.up (by assumption) zF.le) (Nat.le_of_ble_eq_true rfl) ?_))

-- part TA
section ta
variable {prog : Program} {w : World} {A : Around} {E Q : Value → Shared → Prop} {s : Shared} {H : Heap}

def CovAt (H : Heap) (x : Addr) (pl : List Int) : Prop := ∃ a T vs, InstOf H x 366 a ∧ a "glyphs" = some (.ref T) ∧ (a "index" = none ∧ a "has" = none ∧ a "told" = none) ∧ TA H T vs ∧ IntsAre vs pl
theorem CovAt.up {H H' : Heap} {x : Addr} {pl : List Int} (k : Le H H') : CovAt H x pl → CovAt H' x pl := fun ⟨a, T, vs, I, h, r, hT, hi⟩ => ⟨a, T, vs, I.up k, h, r, hT.up k, hi⟩

theorem cov_init {c : Value} {x dx : Addr} {R : Result → Shared → Prop} (g : Gl (hd.heap_1 w.params) H) (le : Le H s.heap) (hA : Ok A 2) (hx : H.get? x = some (instObj 366 dx)) (hdx : H.get? dx = none) (hod : s.heap.get? dx = some emptyDict)
    (h : ∀ s' od a, St [dx] H s H s' → s'.heap.get? dx = some od → NsObj od a 1 → a "glyphs" = some c ∧ a "index" = none ∧ a "has" = none ∧ a "told" = none → R (.ok (.ret .none)) s') :
    codeAny (model prog w) A (.call (.ref 342) ⟨[.ref x, c], []⟩) R s := by
  refine' code_enter (ms := [(dx, emptyDict)]) (binds := [("self", .ref x), ("glyphs", c)]) g le (by simpa using ⟨hod, hdx⟩) (by simp) ?k6 ?k7 hA.room ?kb ?kk ?kn ?_ ?c1 ?c2 ?c3
  tb_rel
  intro L s₁ F
  have hn := NsObj.nil
  repeat ktr_rel
  rename Fz _ _ _ _ _ _ _ _ _ => F
  repeat ktr_rel
  exact h _ _ _ F.st F.m0 (by assumption) ⟨rfl, rfl, rfl, rfl⟩
theorem cov_new {c : Value} (g : Gl (hd.heap_1 w.params) H) (le : Le H s.heap) (hA : Ok A 3)
    (h : ∀ x dx od a s' H', s.heap.get? dx = none → St [] H s H' s' → H'.get? x = some (instObj 366 dx) → H'.get? dx = none → s'.heap.get? dx = some od → NsObj od a 1 → a "glyphs" = some c ∧ a "index" = none ∧ a "has" = none ∧ a "told" = none → Q (.ref x) s') :
    wpAny (model prog w) A (call (.ref 366) [c]) Q E s := by
  refine z_new (f := 342) g le (by k_is) (by k_is) (by k_is) fun x dx s₁ H₁ n1 n2 st hx hdx hod => ?_
  exact cov_init (g.up st.le) st.le' hA.make hx hdx hod fun s' od a st' hod' hn hg => ⟨rfl, h x dx od a s' H₁ n2 (st.into st' n2) hx hdx hod' hn hg⟩

theorem lt_of_sorted {pl : List Int} (hs : pl.Pairwise (· < ·)) {i j : Nat} {a b : Int} (hij : i < j) (ha : pl[i]? = some a) (hb : pl[j]? = some b) : a < b := by
  obtain ⟨h1, rfl⟩ := List.getElem?_eq_some_iff.mp ha
  obtain ⟨h2, rfl⟩ := List.getElem?_eq_some_iff.mp hb
  exact List.pairwise_iff_getElem.mp hs i j h1 h2 hij

theorem index_spec {x : Addr} {pl : List Int} {gl : Int} {t : Tok} (g : Gl (hd.heap_1 w.params) H) (le : Le H s.heap) (hA : Ok A 2) (hx : CovAt H x pl) (hs : pl.Pairwise (· < ·)) (hlen : pl.length ≤ 1000)
    (h : ∀ k t s', St [] H s H s' → (0 ≤ k ↔ gl ∈ pl) → Q (.int k t) s') : wpAny (model prog w) A (call (.ref 349) [.ref x, .int gl t]) Q E s := by
  refine' z_enter (ms := []) (binds := [("self", .ref x), ("glyph", .int gl t)]) g le (by simp) (by simp) ?k6 ?k7 hA.room ?kb ?kk ?kn ?_ ?c1 ?c2 ?c3
  tb_rel
  intro L s₁ F
  obtain ⟨a, T, vs, I, hgl, hr, hT, hi⟩ := hx
  have hvl : vs.length = pl.length := hi.length
  repeat ktr_rel
  rename Fz _ _ _ _ _ _ _ _ _ => F
  refine z_lenT F (hT.up F.le).isTup (by rw [List.size_toArray, sizeLine_eq]; omega) ?_
  clear F
  intro t₁ s₂ F
  rw [List.size_toArray, hvl]
  repeat ktr_rel
  rename Fz _ _ _ _ _ _ _ _ _ => F
  refine z_while (fun n H' m' _ ms' => ∃ (lo hi : Int) (t1 t2 : Tok), H' = H ∧ ms' = [] ∧ m' "low" = some (.int lo t1) ∧ m' "high" = some (.int hi t2) ∧ m' "self" = some (.ref x) ∧ m' "glyph" = some (.int gl t) ∧ 0 ≤ lo ∧ lo ≤ hi ∧ hi ≤ pl.length ∧ n = (hi - lo).toNat ∧
    (∀ (j : Nat) v, pl[j]? = some v → (j : Int) < lo → v < gl) ∧ (∀ (j : Nat) v, pl[j]? = some v → hi ≤ (j : Int) → gl ≤ v)) pl.length F
    ⟨0, pl.length, _, _, rfl, rfl, rfl, rfl, rfl, rfl, by omega, by omega, by omega, by omega, fun j v hj h0 => by omega, fun j v hj h0 => by have := (List.getElem?_eq_some_iff.mp hj).1; omega⟩ ?_
  rintro n _ m' _ _ s₃ E' F ⟨lo, hi', t1, t2, rfl, rfl, e1, e2, e3, e4, l0, l1, l2, rfl, hlo, hhi⟩
  repeat ktr_rel
  refine z_if (fun hb => ?_) (fun hb => ?_)
  · have hb' : lo < hi' := of_decide_eq_true hb
    repeat ktr_rel
    rename Fz _ _ _ _ _ _ _ _ _ => F
    have hm : (lo + hi').fdiv 2 = (lo + hi') / 2 := Int.fdiv_eq_ediv_of_nonneg _ (by decide)
    generalize hmid : (lo + hi').fdiv 2 = mid at *
    rw [hm] at hmid
    have m0 : lo ≤ mid := by omega
    have m1 : mid < hi' := by omega
    have hj : mid.toNat < pl.length := by omega
    have hp : pl[mid.toNat]? = some pl[mid.toNat] := List.getElem?_eq_getElem hj
    obtain ⟨tv, hv⟩ := hi.get _ _ hp
    refine z_itemTA (hT.up F.le) (x := .int pl[mid.toNat] tv) (by simpa using hv) ?_ (by omega) (by omega)
    repeat ktr_rel
    refine z_if (fun hc => ?_) (fun hc => ?_)
    · have hc' : pl[mid.toNat] < gl := of_decide_eq_true hc
      repeat ktr_rel
      rename Fz _ _ _ _ _ _ _ _ _ => F
      repeat ktr_rel
      refine ⟨(hi' - (mid + 1)).toNat, _, _, _, _, by omega, F, mid + 1, hi', _, t2, rfl, rfl, rfl, ?_, ?_, ?_, by omega, by omega, l2, rfl, fun j v hj' h0 => ?_, hhi⟩
      · assumption
      · assumption
      · assumption
      · rcases Nat.lt_or_ge j mid.toNat with q | q
        · exact Int.lt_trans (lt_of_sorted hs q hj' hp) hc'
        · have : j = mid.toNat := by omega
          subst this
          rw [hp] at hj'
          rw [← Option.some.inj hj']
          exact hc'
    · have hc' : ¬ pl[mid.toNat] < gl := fun q => hc (decide_eq_true q)
      repeat ktr_rel
      rename Fz _ _ _ _ _ _ _ _ _ => F
      repeat ktr_rel
      refine ⟨(mid - lo).toNat, _, _, _, _, by omega, F, lo, mid, t1, _, rfl, rfl, ?_, rfl, ?_, ?_, l0, by omega, by omega, rfl, hlo, fun j v hj' h0 => ?_⟩
      · assumption
      · assumption
      · assumption
      · rcases Nat.lt_or_ge mid.toNat j with q | q
        · exact Int.le_of_lt (Int.lt_of_le_of_lt (Int.not_lt.mp hc') (lt_of_sorted hs q hp hj'))
        · have : j = mid.toNat := by omega
          subst this
          rw [hp] at hj'
          rw [← Option.some.inj hj']
          exact Int.not_lt.mp hc'
  · have hb' : ¬ lo < hi' := fun q => hb (decide_eq_true q)
    have hlh : lo = hi' := by omega
    subst hlh
    repeat ktr_rel
    rename Fz _ _ _ _ _ _ _ _ _ => F
    refine z_lenT F (hT.up F.le).isTup (by rw [List.size_toArray, sizeLine_eq]; omega) ?_
    clear F
    intro t₁ s₂ F
    rw [List.size_toArray, hvl]
    repeat ktr_rel
    have nomem : (lo.toNat < pl.length → pl[lo.toNat]? ≠ some gl) → gl ∉ pl := fun q hm => by
      obtain ⟨j, hj, e⟩ := List.getElem_of_mem hm
      have hj' : pl[j]? = some gl := by rw [List.getElem?_eq_getElem hj, e]
      rcases Nat.lt_trichotomy j lo.toNat with r | r | r
      · have := hlo j gl hj' (by omega)
        omega
      · subst r; exact q hj hj'
      · have hlt : lo.toNat < pl.length := by omega
        have hp : pl[lo.toNat]? = some pl[lo.toNat] := List.getElem?_eq_getElem hlt
        have h1 := lt_of_sorted hs r hp hj'
        have h2 := hhi lo.toNat _ hp (by omega)
        omega
    refine z_if (fun hc => ?_) (fun hc => ?_)
    · have hc' : lo < pl.length := of_decide_eq_true hc
      have hj : lo.toNat < pl.length := by omega
      have hp : pl[lo.toNat]? = some pl[lo.toNat] := List.getElem?_eq_getElem hj
      obtain ⟨tv, hv⟩ := hi.get _ _ hp
      repeat ktr_rel
      rename Fz _ _ _ _ _ _ _ _ _ => F
      refine z_itemTA (hT.up F.le) (x := .int pl[lo.toNat] tv) (by simpa using hv) ?_ (by omega) (by omega)
      repeat ktr_rel
      refine z_if (fun hd => ?_) (fun hd => ?_)
      · repeat ktr_rel
        rename Fz _ _ _ _ _ _ _ _ _ => F
        repeat ktr_rel
        refine h lo _ _ F.st ⟨fun _ => ?_, fun _ => l0⟩
        have : pl[lo.toNat] = gl := by simpa using hd
        rw [← this]; exact List.getElem_mem hj
      · repeat ktr_rel
        rename Fz _ _ _ _ _ _ _ _ _ => F
        repeat ktr_rel
        refine h (-1) _ _ F.st ⟨fun q => absurd q (by decide), fun q => absurd q (nomem fun _ r => hd ?_)⟩
        rw [hp] at r
        simpa using Option.some.inj r
    · repeat ktr_rel
      rename Fz _ _ _ _ _ _ _ _ _ => F
      repeat ktr_rel
      refine h (-1) _ _ F.st ⟨fun q => absurd q (by decide), fun q => absurd q (nomem fun r _ => hc (decide_eq_true ?_))⟩
      omega
end ta

-- part TB
section tb
variable {prog : Program} {w : World} {A : Around} {E Q : Value → Shared → Prop} {s : Shared} {H : Heap}

theorem has_spec {x : Addr} {pl : List Int} {gl : Int} {t : Tok} (g : Gl (hd.heap_1 w.params) H) (le : Le H s.heap) (hA : Ok A 3) (hx : CovAt H x pl) (hs : pl.Pairwise (· < ·)) (hlen : pl.length ≤ 1000)
    (h : ∀ s', St [] H s H s' → Q (.bool (decide (gl ∈ pl))) s') : wpAny (model prog w) A (call (.ref 356) [.ref x, .int gl t]) Q E s := by
  refine' z_enter (ms := []) (binds := [("self", .ref x), ("glyph", .int gl t)]) g le (by simp) (by simp) ?k6 ?k7 hA.room ?kb ?kk ?kn ?_ ?c1 ?c2 ?c3
  tb_rel
  intro L s₁ F
  have hx' := hx
  obtain ⟨a, T, vs, I, hgl, ⟨r1, r2, r3⟩, hT, hi⟩ := hx'
  repeat ktr_rel
  rename Fz _ _ _ _ _ _ _ _ _ => F
  refine index_spec g F.le hA.deeper hx hs hlen fun k t₁ s₂ st hk => ?_
  have F := F.next st
  repeat ktr_rel
  rename Fz _ _ _ _ _ _ _ _ _ => F
  have := h _ F.st
  rw [show decide (gl ∈ pl) = decide (k ≥ 0) from decide_eq_decide.mpr hk.symm] at this
  exact this

/-- a test, and the glyphs that fit it -/
def TestAt (prog : Program) (w : World) (H : Heap) (v : Value) (pl : List Int) : Prop :=
  pl.Pairwise (· < ·) ∧ pl.length ≤ 1000 ∧ ∃ T, v = .ref T ∧
  ((∃ t g tg, TA H T [.str "glyph" t, .int g tg] ∧ pl = [g]) ∨
   (∃ t x tc f, TA H T [.str "class" t, .ref x, .int 2 tc] ∧ ClsAt prog w H x f ∧ ∀ g, f g = if g ∈ pl then 2 else 0) ∨
   (∃ t x, TA H T [.str "cover" t, .ref x] ∧ CovAt H x pl))
theorem ClsAt.up {H H' : Heap} {x : Addr} {f : Int → Int} (k : Le H H') : ClsAt prog w H x f → ClsAt prog w H' x f := fun ⟨a, d, I, e1, e2, hS, kv, hd, r⟩ => ⟨a, d, I.up k, e1, e2, hS, kv, dic_up k hd, r⟩
theorem TestAt.up {H H' : Heap} {v : Value} {pl : List Int} (k : Le H H') : TestAt prog w H v pl → TestAt prog w H' v pl := fun ⟨a, b, T, e, h⟩ =>
  ⟨a, b, T, e, h.imp (fun ⟨t, g, tg, h, r⟩ => ⟨t, g, tg, h.up k, r⟩) (fun h => h.imp (fun ⟨t, x, tc, f, h, c, r⟩ => ⟨t, x, tc, f, h.up k, ClsAt.up k c, r⟩) fun ⟨t, x, h, c⟩ => ⟨t, x, h.up k, CovAt.up k c⟩)⟩

theorem fits_spec {v : Value} {pl : List Int} {gl : Int} {t : Tok} (g : Gl (hd.heap_1 w.params) H) (le : Le H s.heap) (hA : Ok A 4) (hx : TestAt prog w H v pl)
    (h : ∀ s', St [] H s H s' → Q (.bool (decide (gl ∈ pl))) s') : wpAny (model prog w) A (call (.ref 116) [v, .int gl t]) Q E s := by
  refine' z_enter (ms := []) (binds := [("test", v), ("glyph", .int gl t)]) g le (by simp) (by simp) ?k6 ?k7 hA.room ?kb ?kk ?kn ?_ ?c1 ?c2 ?c3
  tb_rel
  intro L s₁ F
  obtain ⟨hs, hlen, T, rfl, hx⟩ := hx
  rcases hx with ⟨t1, g0, tg, hT, rfl⟩ | ⟨t1, x, tc, f, hT, hc, hf⟩ | ⟨t1, x, hT, hc⟩
  · repeat ktr_rel
    rename Fz _ _ _ _ _ _ _ _ _ => F
    have := h _ F.st
    rw [show decide (gl ∈ [g0]) = (g0 == gl) by rw [Bool.eq_iff_iff, decide_eq_true_iff, beq_iff_eq, List.mem_singleton]; exact eq_comm] at this
    exact this
  · have hc' := hc
    obtain ⟨a, d, I, e1, e2, hS⟩ := hc'
    repeat ktr_rel
    rename Fz _ _ _ _ _ _ _ _ _ => F
    refine class_of_spec g F.le (hA.deeper.less (by omega)) hc fun t₂ s₂ st => ?_
    have F := F.next st
    repeat ktr_rel
    rename Fz _ _ _ _ _ _ _ _ _ => F
    have := h _ F.st
    rw [show decide (gl ∈ pl) = (f gl == 2) by
      rw [hf]
      by_cases q : gl ∈ pl
      · simp [q]
      · simp [q]] at this
    exact this
  · have hc' := hc
    obtain ⟨a, T', vs, I, hgl, ⟨r1, r2, r3⟩, hT', hi⟩ := hc'
    repeat ktr_rel
    rename Fz _ _ _ _ _ _ _ _ _ => F
    refine has_spec g F.le hA.deeper hc hs hlen fun s₂ st => ?_
    have F := F.next st
    repeat ktr_rel
    rename Fz _ _ _ _ _ _ _ _ _ => F
    repeat ktr_rel
    exact h _ F.st
end tb

-- part TC
section tc
variable {prog : Program} {w : World} {A : Around} {E : Value → Shared → Prop} {s₀ s : Shared} {H₀ H : Heap} {W : List Addr} {env : Env} {m cm : Str → Option Value} {ms : List (Addr × Obj)}

theorem Fz.gained {h' : Heap} {tk : Nat} {d : Addr} {o : Obj} (F : Fz s₀ H₀ W env H m cm ms s) (hk : ∀ b o, s.heap.get? b = some o → h'.get? b = some o) (hd : s.heap.get? d = none) (ho : h'.get? d = some o) :
    s₀.heap.get? d = none ∧ Fz s₀ H₀ W env H m cm ((d, o) :: ms) { s with heap := h', toks := tk } := by
  have st : St [] H s H { s with heap := h', toks := tk } := ⟨⟨_, _, rfl⟩, fun b o _ e => hk b o e, fun b e => ?_, .refl, F.le.trans hk, fun _ _ e => .inl e⟩
  · obtain ⟨G, n0⟩ := F.made st hd (by
      rcases get_none_or (h := H) d with q | ⟨o', q⟩
      · exact q
      · rw [F.le _ _ q] at hd; cases hd) ho
    repeat ktr_rel
    exact ⟨n0, G⟩
  · rcases get_none_or (h := s.heap) b with q | ⟨o', q⟩
    · exact q
    · rw [show ({ s with heap := h', toks := tk } : Shared).heap.get? b = h'.get? b from rfl, hk b o' q] at e; cases e

theorem z_mkS {o : Obj} {Q : Value → Shared → Prop} (F : Fz s₀ H₀ W env H m cm ms s) (g : Gl (hd.heap_1 w.params) H) (h : ∀ T s', (T == sysModules) = false → s₀.heap.get? T = none → Fz s₀ H₀ W env H m cm ((T, o) :: ms) s' → Q (.ref T) s') (ho : o.isFreed = false := by rfl) : Mk o Q s :=
  let ⟨G, n⟩ := F.push o ho; h _ _ (F.big g) n G
theorem DObj.nil : DObj prog w { cls := .type "dict", data := .dict #[] } [] := ⟨#[], 0, ⟨rfl, rfl, rfl⟩, rfl, fun _ he => by simp at he, .nil, by simp⟩
theorem ints_of_keys : ∀ {vs : List Value} {kvs : List (Int × Value)}, vs.length = kvs.length → (∀ (i : Nat) v, vs[i]? = some v → ∃ k x t, kvs[i]? = some (k, x) ∧ v = .int k t) → IntsAre vs (kvs.map (·.1))
  | [], [], _, _ => .nil
  | [], _ :: _, h, _ => by simp at h
  | _ :: _, [], h, _ => by simp at h
  | v :: vs, kv :: kvs, h, hv => by
    obtain ⟨k, x, t, e, rfl⟩ := hv 0 v rfl
    cases e
    exact .cons k t (ints_of_keys (by simpa using h) fun i v' h' => hv (i + 1) v' h')

theorem z_sortedD {d : Addr} {kvs : List (Int × Value)} {Q : Value → Shared → Prop} (F : Fz s₀ H₀ W env H m cm ms s) (hA : A.handled = none) (hdS : (d == sysModules) = false) (hd : s.heap.DictOf (intKind prog w) d kvs) (hsz : kvs.length < 64)
    (h : ∀ l vs ns n s', s₀.heap.get? l = none → IntsAre vs ns → ns.Perm (kvs.map (·.1)) → ns.Pairwise (· ≤ ·) → Fz s₀ H₀ W env H m cm ((l, listOf (List.toArray vs) n) :: ms) s' → Q (.ref l) s') :
    wpAny (model prog w) A (call (.builtin "sorted") [.ref d]) Q E s := by
  obtain ⟨ep, hat⟩ := hd.dictAt
  refine call_function_entry kind_sorted plain_sorted entry_sorted (args_sorted1 _) ?_
  unfold Builtin.«sorted»
  refine wpAny_bind (m := checkCount "sorted" 1 1 _) (wpAny_pure ?_)
  refine wpAny_bind (kdu_collect (A := A.in1) (kdl_dict (knd := intKind prog w) (kvs := kvs) (ep := ep) hdS) hA hat (by rw [sizeLine_eq]; omega) fun h' tk acc hk hacc => ?_)
  have hl : acc.toList.length = kvs.length := by rw [Array.length_toList]; exact hacc.1
  refine wpAny_bind (wpAny_newList ?_ (by rw [hl, sizeLine_eq]; omega))
  have hI : IntsAre acc.toList (kvs.map (·.1)) := ints_of_keys hl fun i v hv => by
    obtain ⟨k, x, e, e2⟩ := hacc.2 i v (by rw [← Array.getElem?_toList]; exact hv)
    obtain ⟨t, rfl⟩ := Value.isInt_shape (show Value.isInt k v = true from e2)
    exact ⟨k, x, t, e, rfl⟩
  have hoL : (h'.push (seqObj "list" acc.toList.toArray 0)).get? h'.objs.size = some (seqObj "list" acc.toList.toArray 0) := Heap.get?_push_size _ rfl
  refine wpAny_bind (wpAny_holding (wpAny_call_entry (s := { s with heap := h'.push (seqObj "list" acc.toList.toArray 0), toks := tk }) slot_list_sort ⟨_, hoL, rfl⟩ entry_list_sort
    (list_sort_tree (s := { s with heap := h'.push (seqObj "list" acc.toList.toArray 0), toks := tk }) hoL hI (by rw [hl]; exact hsz) fun out ns' a1 a2 a3 => ⟨_, rfl, ?_⟩) (args_list_sort _)))
  refine wpAny_pure ⟨_, rfl, ?_⟩
  obtain ⟨e, he⟩ := sortedHeap_at (out := out) hoL
  have hfr : s.heap.get? h'.objs.size = none := by
    rcases get_none_or (h := s.heap) h'.objs.size with q | ⟨o, q⟩
    · exact q
    · exact absurd (Heap.lt_size (hk _ _ q)) (Nat.lt_irrefl _)
  obtain ⟨n0, G⟩ := F.gained (tk := tk) (h' := sortedHeap (h'.push (seqObj "list" acc.toList.toArray 0)) h'.objs.size acc.toList out) (d := h'.objs.size) (fun b o q => by
    have hb := Heap.lt_size (hk _ _ q)
    rw [sortedHeap_old (Nat.ne_of_lt hb) (by rw [size_push']; exact Nat.lt_succ_of_lt hb)]
    exact Heap.get?_push_of_some _ (hk _ _ q)) hfr he
  repeat ktr_rel
  exact h h'.objs.size out.toList ns' e _ n0 a1 a2 a3 G

theorem z_setD {d : Addr} {o : Obj} {kvs : List (Int × Value)} {k : Int} {t : Tok} {v : Value} {pre post : List (Addr × Obj)} {Q : Unit → Shared → Prop} (F : Fz s₀ H₀ W env H m cm (pre ++ (d, o) :: post) s) (hO : DObj prog w o kvs) (hsz : kvs.length ≤ 1000)
    (h : ∀ o' s', DObj prog w o' (stored kvs k v) → Fz s₀ H₀ W env H m cm (pre ++ (d, o') :: post) s' → Q () s') : wpAny (model prog w) A (setItem (.ref d) (.int k t) v) Q E s := by
  refine wpAny_setItem_pairs (knd := intKind prog w) (intKind_is prog w k t) (hO.at (F.ml (d, o) (by simp))) (fun h' hd hs => ?_) (by rw [sizeLine_eq]; omega)
  obtain ⟨o', ho', hO'⟩ := DObj.of hd
  repeat ktr_rel
  exact h o' _ hO' (F.touch hs ho')

theorem z_tupleL {l : Addr} {vs : List Value} {Q : Value → Shared → Prop} (F : Fz s₀ H₀ W env H m cm ms s) (hl : LA s.heap l vs) (hsz : vs.length ≤ 1000)
    (h : ∀ T s', s₀.heap.get? T = none → Fz s₀ H₀ W env H m cm ((T, tupOf vs) :: ms) s' → Q (.ref T) s') : wpAny (model prog w) A (call (.type "tuple") [.ref l]) Q E s := by
  refine call_tuple_list hl.isList (fun h' hk => ?_) (by rw [List.size_toArray, sizeLine_eq]; omega)
  have hfr : s.heap.get? h'.objs.size = none := by
    rcases get_none_or (h := s.heap) h'.objs.size with q | ⟨o, q⟩
    · exact q
    · exact absurd (Heap.lt_size (hk _ _ q)) (Nat.lt_irrefl _)
  obtain ⟨n0, G⟩ := F.gained (tk := s.toks) (d := h'.objs.size) (fun b o q => Heap.get?_push_of_some _ (hk _ _ q)) hfr (Heap.get?_push_size h' (o := tupOf vs) rfl)
  repeat ktr_rel
  exact h _ _ n0 G

theorem sorted_uniq {ns ms : List Int} (hp : ns.Perm ms) (hs : ns.Pairwise (· ≤ ·)) (hm : ms.Pairwise (· < ·)) : ns = ms :=
  List.Perm.eq_of_pairwise (le := (· ≤ ·)) (fun a b _ _ h1 h2 => Int.le_antisymm h1 h2) hs (hm.imp Int.le_of_lt) hp
theorem sorted_strict {ns : List Int} (hn : ns.Nodup) (hs : ns.Pairwise (· ≤ ·)) : ns.Pairwise (· < ·) := by
  refine List.Pairwise.imp₂ (fun a b h1 h2 => ?_) hs hn
  exact Int.lt_iff_le_and_ne.mpr ⟨h1, h2⟩
end tc

section tc2
variable {prog : Program} {w : World} {A : Around} {E Q : Value → Shared → Prop} {s : Shared} {H : Heap}
theorem stored_new {kvs : List (Int × Value)} {k : Int} {v : Value} (h : k ∉ kvs.map (·.1)) : stored kvs k v = kvs ++ [(k, v)] := by
  unfold stored
  rw [if_neg]
  simp only [List.any_eq_true, not_exists, not_and, decide_eq_true_eq]
  intro kv hkv e
  repeat ktr_rel
  exact h (by rw [← e]; exact List.mem_map_of_mem hkv)

theorem coverage_spec {v : Value} {ns : List Int} (g : Gl (hd.heap_1 w.params) H) (le : Le H s.heap) (hA : Ok A 5) (hv : IL H v ns) (hs : ns.Pairwise (· < ·)) (hlen : ns.length < 60)
    (h : ∀ x H' s', St [] H s H' s' → CovAt H' x ns → Q (.ref x) s') : wpAny (model prog w) A (call (.ref 377) [v]) Q E s := by
  obtain ⟨l, vs, rfl, hl, hi⟩ := hv
  refine' z_enter (ms := []) (binds := [("glyphs", .ref l)]) g le (by simp) (by simp) ?k6 ?k7 hA.room ?kb ?kk ?kn ?_ ?c1 ?c2 ?c3
  tb_rel
  intro L s₁ F
  have hvl := hi.length
  repeat ktr_rel
  rename Fz _ _ _ _ _ _ _ _ _ => F
  refine z_mkS F g ?_
  clear F
  intro d s₂ hdS hd₀ F
  repeat ktr_rel
  rename Fz _ _ _ _ _ _ _ _ _ => F
  refine for_list hA.hh F hl.isList (by rfl) (fun i H' m' _ ms' => ∃ o kvs, H' = H ∧ ms' = [(d, o)] ∧ m' "found" = some (.ref d) ∧ DObj prog w o kvs ∧ kvs.map (·.1) = ns.take i)
    ⟨_, [], rfl, rfl, rfl, DObj.nil, rfl⟩ ?_ ?_
  · rintro i v I io _ m' cm' _ s₃ E' hi' hv ⟨o, kvs, rfl, rfl, e1, hO, hk⟩ F
    rw [List.size_toArray] at hi'
    obtain ⟨n, t, rfl, hn⟩ := hi.at i v (by simpa using hv)
    have F : Fz _ _ _ _ _ _ _ [(d, o), (I, io)] _ := F
    repeat ktr_rel
    rename Fz _ _ _ _ _ _ _ _ _ => F
    refine z_setD (pre := []) F hO (by have : kvs.length = (ns.take i).length := by rw [← hk, List.length_map]
                                       rw [List.length_take] at this; omega) ?_
    clear F
    intro o' s₄ hO' F
    have hnew : n ∉ kvs.map (·.1) := by
      rw [hk]
      intro hm
      obtain ⟨j, hj, e⟩ := List.getElem_of_mem hm
      have hj' : j < i := by rw [List.length_take] at hj; omega
      have := lt_of_sorted hs hj' (a := n) (by rw [List.getElem_take] at e; rw [← e]; exact List.getElem?_eq_getElem _) hn
      omega
    rw [stored_new hnew] at hO'
    repeat ktr_rel
    rename Fz _ _ _ _ _ _ _ _ _ => F
    repeat ktr_rel
    refine ⟨_, _, _, [(d, o')], F, .refl, o', _, rfl, rfl, ?_, hO', ?_⟩
    · assumption
    · rw [List.map_append, hk, List.take_add_one, hn]; rfl
  · rintro H' m' cm' ms' s₃ ⟨o, kvs, rfl, rfl, e1, hO, hk⟩ F
    rw [List.size_toArray, hvl, List.take_length] at hk
    repeat ktr_rel
    rename Fz _ _ _ _ _ _ _ _ _ => F
    refine z_sortedD F hA.hh hdS (hO.at F.m0) (by rw [← List.length_map (f := (·.1)), hk]; omega) ?_
    clear F
    intro l2 vs2 ns2 n2 s₄ hl2 hi2 hp hsrt F
    rw [hk] at hp
    have := sorted_uniq hp hsrt hs
    subst this
    repeat ktr_rel
    rename Fz _ _ _ _ _ _ _ _ _ => F
    refine z_tupleL F ⟨n2, F.m0⟩ (by rw [hi2.length]; omega) ?_
    clear F
    intro T s₅ hT F
    obtain ⟨H₂, le₂, hT₂, F⟩ := F.freeze hT
    have g₂ := g.up le₂
    clear g
    repeat ktr_rel
    rename Fz _ _ _ _ _ _ _ _ _ => F
    refine cov_new g₂ F.le (hA.deeper.less (by omega)) ?_
    intro x dx od a s₆ H₃ n1 st hx hdx hod hN ha
    obtain ⟨H₃, le₃, I1, F⟩ := F.inst st n1 hx hdx hod hN
    repeat ktr_rel
    exact h x H₃ _ F.st ⟨a, T, vs2, I1, ha.1, ha.2, le₃ _ _ hT₂, hi2⟩
end tc2

-- part TD
section td
variable {prog : Program} {w : World} {A : Around} {E Q : Value → Shared → Prop} {s : Shared} {H : Heap}
def TagV (n : Str) (H : Heap) (u v : Value) : Prop := ∃ T t, u = .ref T ∧ TA H T [.str n t, v]
theorem TagV.up {n : Str} {H H' : Heap} {u v : Value} (k : Le H H') : TagV n H u v → TagV n H' u v := fun ⟨T, t, e, h⟩ => ⟨T, t, e, h.up k⟩

theorem glyph_tests_spec {l : Addr} {vs : List Value} (g : Gl (hd.heap_1 w.params) H) (le : Le H s.heap) (hA : Ok A 3) (hl : LA H l vs) (hlen : vs.length < 60)
    (h : ∀ T ws H' s', St [] H s H' s' → TA H' T ws → All2 (TagV "glyph" H') ws vs → Q (.ref T) s') : wpAny (model prog w) A (call (.ref 104) [.ref l]) Q E s := by
  refine' z_enter (ms := []) (binds := [("glyphs", .ref l)]) g le (by simp) (by simp) ?k6 ?k7 hA.room ?kb ?kk ?kn ?_ ?c1 ?c2 ?c3
  tb_rel
  intro L s₁ F
  repeat ktr_rel
  rename Fz _ _ _ _ _ _ _ _ _ => F
  refine ready_list hA.hh F hl.isList ⟨by intro n c h; simp at h, by simp⟩ (by rw [List.size_toArray, sizeLine_eq]; omega)
    (fun i ys H' ms' => ms' = [] ∧ All2 (TagV "glyph" H') ys (vs.take i)) ⟨rfl, .nil⟩ ?_ ?_
  · rintro i v ys H' ms' s₃ C mC E' hi hv ⟨rfl, hy⟩ le' e1 F
    have g' := g.up le'
    clear g
    repeat ktr_rel
    rename Fz _ _ _ _ _ _ _ _ _ => F
    refine z_mkF F ?_
    clear F
    intro T s₅ H₂ le₂ hT F
    repeat ktr_rel
    refine ⟨H₂, [], F, rfl, rfl, ?_⟩
    have hv' : vs[i]? = some v := by simpa using hv
    rw [List.take_add_one, hv']
    exact (hy.mono fun _ _ => TagV.up le₂).snoc ⟨T, _, rfl, hT⟩
  · rintro D C ys H' ms' nn co mC s₃ hD hC ⟨rfl, hy⟩ le' - F hN
    rw [List.size_toArray, List.take_length] at hy
    refine ⟨mC, hN, fun h' hs => ?_⟩
    have F := F.endC hC hs
    have g' := g.up le'
    clear g
    repeat ktr_rel
    rename Fz _ _ _ _ _ _ _ _ _ => F
    refine z_tupleL F ⟨nn, F.m0⟩ (by rw [hy.1]; omega) ?_
    clear F
    intro T s₅ hT F
    obtain ⟨H₂, le₂, hT₂, F⟩ := F.freeze hT
    repeat ktr_rel
    exact h T ys H₂ _ F.st hT₂ (hy.mono fun _ _ => TagV.up le₂)

theorem cover_tests_spec {l : Addr} {vs : List Value} (g : Gl (hd.heap_1 w.params) H) (le : Le H s.heap) (hA : Ok A 3) (hl : LA H l vs) (hlen : vs.length < 60)
    (h : ∀ T ws H' s', St [] H s H' s' → TA H' T ws → All2 (TagV "cover" H') ws vs → Q (.ref T) s') : wpAny (model prog w) A (call (.ref 109) [.ref l]) Q E s := by
  refine' z_enter (ms := []) (binds := [("coverages", .ref l)]) g le (by simp) (by simp) ?k6 ?k7 hA.room ?kb ?kk ?kn ?_ ?c1 ?c2 ?c3
  tb_rel
  intro L s₁ F
  repeat ktr_rel
  rename Fz _ _ _ _ _ _ _ _ _ => F
  refine ready_list hA.hh F hl.isList ⟨by intro n c h; simp at h, by simp⟩ (by rw [List.size_toArray, sizeLine_eq]; omega)
    (fun i ys H' ms' => ms' = [] ∧ All2 (TagV "cover" H') ys (vs.take i)) ⟨rfl, .nil⟩ ?_ ?_
  · rintro i v ys H' ms' s₃ C mC E' hi hv ⟨rfl, hy⟩ le' e1 F
    have g' := g.up le'
    clear g
    repeat ktr_rel
    rename Fz _ _ _ _ _ _ _ _ _ => F
    refine z_mkF F ?_
    clear F
    intro T s₅ H₂ le₂ hT F
    repeat ktr_rel
    refine ⟨H₂, [], F, rfl, rfl, ?_⟩
    have hv' : vs[i]? = some v := by simpa using hv
    rw [List.take_add_one, hv']
    exact (hy.mono fun _ _ => TagV.up le₂).snoc ⟨T, _, rfl, hT⟩
  · rintro D C ys H' ms' nn co mC s₃ hD hC ⟨rfl, hy⟩ le' - F hN
    rw [List.size_toArray, List.take_length] at hy
    refine ⟨mC, hN, fun h' hs => ?_⟩
    have F := F.endC hC hs
    have g' := g.up le'
    clear g
    repeat ktr_rel
    rename Fz _ _ _ _ _ _ _ _ _ => F
    refine z_tupleL F ⟨nn, F.m0⟩ (by rw [hy.1]; omega) ?_
    clear F
    intro T s₅ hT F
    obtain ⟨H₂, le₂, hT₂, F⟩ := F.freeze hT
    repeat ktr_rel
    exact h T ys H₂ _ F.st hT₂ (hy.mono fun _ _ => TagV.up le₂)
end td

-- part TE
theorem stored_ne {kvs : List (Int × Value)} {k : Int} {v : Value} : stored kvs k v ≠ [] := by
  unfold stored
  split
  · rename_i h
    intro e
    rw [List.map_eq_nil_iff] at e
    subst e
    simp at h
  · simp
theorem merged_ne : ∀ {more kvs : List (Int × Value)}, (more ≠ [] ∨ kvs ≠ []) → merged kvs more ≠ []
  | [], kvs, h => by simpa [merged] using h
  | kv :: r, kvs, _ => by
    show merged (stored kvs kv.1 kv.2) r ≠ []
    exact merged_ne (.inr stored_ne)
theorem stored_keys {kvs : List (Int × Value)} {k : Int} {v : Value} {x : Int} (h : x ∈ (stored kvs k v).map (·.1)) : x ∈ kvs.map (·.1) ∨ x = k := by
  unfold stored at h
  split at h
  · left
    rw [List.map_map] at h
    obtain ⟨kv, h1, h2⟩ := List.mem_map.mp h
    refine List.mem_map.mpr ⟨kv, h1, ?_⟩
    rw [← h2]
    show _ = (if kv.1 = k then (kv.1, v) else kv).1
    split <;> rfl
  · simp at h
    rcases h with ⟨y, h⟩ | h
    · exact .inl (List.mem_map.mpr ⟨(x, y), h, rfl⟩)
    · exact .inr h
theorem merged_keys : ∀ {more kvs : List (Int × Value)} {x : Int}, x ∈ (merged kvs more).map (·.1) → x ∈ kvs.map (·.1) ∨ x ∈ more.map (·.1)
  | [], kvs, x, h => .inl h
  | kv :: r, kvs, x, h => by
    rcases merged_keys (more := r) (kvs := stored kvs kv.1 kv.2) h with q | q
    · rcases stored_keys q with q | q
      · exact .inl q
      · exact .inr (by rw [q]; simp)
    · exact .inr (List.mem_map.mpr (let ⟨y, h1, h2⟩ := List.mem_map.mp q; ⟨y, List.mem_cons_of_mem _ h1, h2⟩))
theorem pick1 {v : Value} {vs : List Value} : slicePick (v :: vs).toArray none (some 1) none = [v].toArray := by
  have := slicePick_upto (v :: vs).toArray 1 (by simp)
  simpa using this
theorem IL.up' {H H' : Heap} {v : Value} {ns : List Int} (k : Le H H') (x : IL H v ns) : IL H' v ns := x.up k
theorem All2.one {α β : Type} {R : α → β → Prop} {ws : List α} {v : β} (x : All2 R ws [v]) : ∃ u, ws = [u] ∧ R u v := by
  obtain ⟨h1, h2⟩ := x
  match ws, h1 with
  | [u], _ => exact ⟨u, rfl, h2 0 u v rfl rfl⟩
def PlOk (pl : List Int) : Prop := pl.Pairwise (· < ·) ∧ pl.length < 60 ∧ ∀ x ∈ pl, 0 ≤ x ∧ x < 7
section te
variable {prog : Program} {w : World} {A : Around} {E Q : Value → Shared → Prop} {s : Shared} {H : Heap}
theorem tests_spec {P : Addr} {o : Obj} {many : Nat} {tk : Tok} (g : Gl (hd.heap_1 w.params) H) (le : Le H s.heap) (hA : Ok A 8) (hP : s.heap.get? P = some o) (hH : H.get? P = none) (ho : PoolAt o) (hm : many ≤ 3)
    (h : ∀ T tv pv nss H' s' o', nss.length = many → (∀ pl ∈ nss, PlOk pl) → St [P] H s H' s' → s'.heap.get? P = some o' → PoolAt o' → TA H' T [tv, pv] → Ls (TestAt prog w) H' tv nss → Ls IL H' pv nss → Q (.ref T) s') :
    wpAny (model prog w) A (call (.ref 466) [.ref P, .int many tk]) Q E s := by
  refine' z_enter (ms := [(P, o)]) (binds := [("pool", .ref P), ("many", .int many tk)]) g le (by simpa using ⟨hP, hH⟩) (by simp) ?k6 ?k7 hA.room ?kb ?kk ?kn ?_ ?c1 ?c2 ?c3
  tb_rel
  intro L s₁ F
  repeat ktr_rel
  rename Fz _ _ _ _ _ _ _ _ _ => F
  refine z_mk F ?_
  clear F
  intro R s₂ hR F
  repeat ktr_rel
  rename Fz _ _ _ _ _ _ _ _ _ => F
  refine z_mk F ?_
  clear F
  intro R2 s₂ hR2 F
  repeat ktr_rel
  rename Fz _ _ _ _ _ _ _ _ _ => F
  refine z_range F ?_
  clear F
  intro r u v s₃ hr F
  refine for_range0 hA.hh F (by omega) (by rfl)
    (fun i H' m' cm' ms' => ∃ vs n ps n2 o' nss, ms' = [(R2, listOf (List.toArray ps) n2), (R, listOf (List.toArray vs) n), (P, o')] ∧ m' "tests" = some (.ref R) ∧ m' "plain" = some (.ref R2) ∧ cm' "pool" = some (.ref P) ∧ PoolAt o' ∧
      All2 (TestAt prog w H') vs nss ∧ All2 (IL H') ps nss ∧ nss.length = i ∧ (∀ pl ∈ nss, PlOk pl) ∧ Le H H')
    ⟨[], _, [], _, _, [], rfl, rfl, rfl, rfl, ho, .nil, .nil, rfl, by simp, .refl⟩ ?_ ?_
  · rintro i v I io H' m' cm' ms' s₄ E' hi ⟨t, rfl⟩ ⟨vs, n, ps, n2, o', nss, rfl, e1, e2, e3, ho', hvs, hps, hlen, hok, le'⟩ F
    have g' := g.up le'
    clear g
    have F : Fz _ _ _ _ _ _ _ [(R2, listOf (List.toArray ps) n2), (R, listOf (List.toArray vs) n), (P, o'), (I, io)] _ := F
    repeat ktr_rel
    rename Fz _ _ _ _ _ _ _ _ _ => F
    refine z_take (pre := [_, _]) F g' (hA.deeper.less (by omega)) ho' (by decide) (by decide) ?_
    clear F
    intro way t₁ o' s₅ w0 w1 ho' F
    repeat ktr_rel
    rename Fz _ _ _ _ _ _ _ _ _ => F
    refine z_take (pre := [_, _]) F g' (hA.deeper.less (by omega)) ho' (by decide) (by decide) ?_
    clear F
    intro k t₂ o' s₆ k0 k1 ho' F
    repeat ktr_rel
    rename Fz _ _ _ _ _ _ _ _ _ => F
    obtain ⟨kn, hkn⟩ : ∃ kn : Nat, 1 + k = (kn : Int) := ⟨(1 + k).toNat, by omega⟩
    rw [hkn]
    refine z_range F ?_
    clear F
    intro r u v s₇ hr F
    refine ready_range0 hA.hh F ⟨by intro n c h; simp at h; obtain ⟨rfl, rfl⟩ := h; exact ⟨rfl, rfl⟩, by simp⟩ (by omega)
      (fun j ys H₂ ms₂ => ∃ kvs o', ms₂ = [(R2, listOf (List.toArray ps) n2), (R, listOf (List.toArray vs) n), (P, o'), (I, io)] ∧ PoolAt o' ∧ All2 (PairV H₂) ys kvs ∧ kvs.length = j ∧ ∀ x ∈ kvs.map (·.1), 0 ≤ x ∧ x < 6)
      ⟨[], o', rfl, ho', .nil, rfl, by simp⟩ ?_ ?_
    · rintro j v ys H₂ ms₂ s₈ C mC E₂ hj ⟨t, rfl⟩ ⟨kvs, o', rfl, ho', hkv, hkl, hks⟩ le₂ e4 F
      have g₂ := g'.up le₂
      clear g'
      repeat ktr_rel
      rename Fz _ _ _ _ _ _ _ _ _ => F
      refine z_take (pre := [_, _]) F g₂ (hA.deeper.less (by omega)) ho' (by decide) (by decide) ?_
      clear F
      intro c t₃ o' s₉ c0 c1 ho' F
      repeat ktr_rel
      rename Fz _ _ _ _ _ _ _ _ _ => F
      refine z_mkF F ?_
      clear F
      intro T s₁₀ H₃ le₃ hT F
      repeat ktr_rel
      refine ⟨H₃, _, F, rfl, kvs ++ [(c, .bool true)], o', rfl, ho', (hkv.mono fun _ _ => PairV.up le₃).snoc (d := (c, Value.bool true)) ⟨T, _, rfl, hT⟩, by simp [hkl], ?_⟩
      intro x hx
      rw [List.map_append] at hx
      rcases List.mem_append.mp hx with q | q
      · exact hks x q
      · rw [List.mem_singleton.mp q]; exact ⟨c0, c1⟩
    · rintro D C ys H₂ ms₂ nn co mC s₈ hD hC ⟨kvs, o', rfl, ho', hkv, hkl, hks⟩ le₂ - F hN
      refine ⟨mC, hN, fun h' hs => ?_⟩
      have F := F.endC hC hs
      have g₂ := g'.up le₂
      clear g'
      repeat ktr_rel
      rename Fz _ _ _ _ _ _ _ _ _ => F
      refine z_dictOf F g₂ hA.hh ⟨nn, F.m0⟩ hkv.1.symm (by rw [hkv.1]; omega) (pairs_of (hkv.mono fun _ _ => PairV.up F.le)) ?_
      intro d od s₉ hdS hd₀ hO F
      have hne : merged [] kvs ≠ [] := merged_ne (.inl (by intro e; rw [e] at hkl; simp at hkl; omega))
      have hnd : ((merged [] kvs).map (·.1)).Nodup := let ⟨_, _, _, _, _, _, q⟩ := hO; q
      have hml := merged_length_le ([] : List (Int × Value)) kvs
      simp only [List.length_nil, Nat.zero_add] at hml
      repeat ktr_rel
      rename Fz _ _ _ _ _ _ _ _ _ => F
      refine z_sortedD F hA.hh hdS (hO.at F.m0) (by omega) ?_
      clear F
      intro l2 vs2 ns n3 s₁₀ hl2 hi2 hp hsrt F
      have hss := sorted_strict (hp.symm.nodup hnd) hsrt
      have hnl : ns.length = (merged [] kvs).length := by rw [hp.length_eq, List.length_map]
      have hmem : ∀ x ∈ ns, 0 ≤ x ∧ x < 6 := fun x hx => by
        rcases merged_keys (hp.mem_iff.mp hx) with q | q
        · simp at q
        · exact hks x q
      obtain ⟨H₃, le₃, hl₃, G⟩ := F.freeze hl2
      replace F := G.forget (pre := [])
      clear G
      replace F := F.forget (pre := [])
      have hIL : IL H₃ (.ref l2) ns := ⟨l2, vs2, rfl, ⟨n3, hl₃⟩, hi2⟩
      have hplok : PlOk ns := ⟨hss, by omega, fun x hx => ⟨(hmem x hx).1, by have := (hmem x hx).2; omega⟩⟩
      have g₃ := g₂.up le₃
      clear g₂
      have le₀₃ := le₂.trans le₃
      repeat ktr_rel
      have hvs' := hvs.mono fun _ _ => TestAt.up le₀₃
      have hps' := hps.mono fun _ _ => IL.up' le₀₃
      clear hvs hps
      have hokn : ∀ pl, (pl ∈ nss ∨ PlOk pl) → PlOk pl := fun pl q => q.elim (hok pl) id
      refine z_if (fun hb => ?_) (fun hb => ?_)
      · obtain ⟨n0, nr, rfl⟩ : ∃ n0 nr, ns = n0 :: nr := by
          cases ns with
          | nil => exact absurd (List.length_eq_zero_iff.mp (by rw [← hnl]; rfl)) hne
          | cons a b => exact ⟨a, b, rfl⟩
        obtain ⟨t0, vr, rfl, hir⟩ := hi2.cons_inv
        have hpl1 : PlOk [n0] := ⟨by simp, by simp, fun x hx => hplok.2.2 x (by rw [List.mem_singleton.mp hx]; simp)⟩
        repeat ktr_rel
        rename Fz _ _ _ _ _ _ _ _ _ => F
        refine z_lappend F.m1 ?_
        repeat ktr_rel
        rename Fz _ _ _ _ _ _ _ _ _ => F
        refine z_mk F ?_
        clear F
        intro sl s₁₁ hsl F
        repeat ktr_rel
        rename Fz _ _ _ _ _ _ _ _ _ => F
        refine z_slice (items := _ :: vr) ⟨_, F.le _ _ hl₃, rfl, _, rfl⟩ F.m0 .none (.int 1 _) .none (by decide) (by have := hir.length; simp at hnl ⊢; omega) ?_
        rw [pick1]
        have F := F.forget (pre := [])
        refine z_mkF F ?_
        clear F
        intro l3 s₁₂ H₄ le₄ hl₄ F
        have g₄ := g₃.up le₄
        clear g₃
        repeat ktr_rel
        rename Fz _ _ _ _ _ _ _ _ _ => F
        refine glyph_tests_spec g₄ F.le (hA.deeper.less (by omega)) ⟨0, hl₄⟩ (by simp) ?_
        intro T ws H₅ s₁₃ st hT hws
        obtain ⟨u, rfl, hu⟩ := hws.one
        have F := F.next st
        have g₅ := g₄.up st.le
        clear g₄
        repeat ktr_rel
        rename Fz _ _ _ _ _ _ _ _ _ => F
        refine z_append (pre := [_]) F (by rw [hvs'.1]; omega) ?_
        clear F
        intro n' s₁₄ F
        repeat ktr_rel
        rename Fz _ _ _ _ _ _ _ _ _ => F
        refine z_lappend F.m0 ?_
        repeat ktr_rel
        rename Fz _ _ _ _ _ _ _ _ _ => F
        refine z_mk F ?_
        clear F
        intro sl s₁₁ hsl F
        repeat ktr_rel
        rename Fz _ _ _ _ _ _ _ _ _ => F
        refine z_slice (items := _ :: vr) ⟨_, F.le _ _ (st.le _ _ (le₄ _ _ hl₃)), rfl, _, rfl⟩ F.m0 .none (.int 1 _) .none (by decide) (by have := hir.length; simp at hnl ⊢; omega) ?_
        rw [pick1]
        have F := F.forget (pre := [])
        refine z_mkF F ?_
        clear F
        intro l4 s₁₂ H₆ le₆ hl₆ F
        have lex := le₄.trans (st.le.trans le₆)
        repeat ktr_rel
        rename Fz _ _ _ _ _ _ _ _ _ => F
        refine z_append (pre := []) F (by rw [hps'.1]; omega) ?_
        clear F
        intro n'' s₁₄ F
        repeat ktr_rel
        rename Fz _ _ _ _ _ _ _ _ _ => F
        repeat ktr_rel
        refine ⟨H₆, _, _, [(R2, _), (R, _), (P, o')], F, le₀₃.trans lex, _, _, _, _, o', nss ++ [[n0]], rfl, ?_, ?_, ?_, ho', (hvs'.mono fun _ _ => TestAt.up lex).snoc ?_, (hps'.mono fun _ _ => IL.up' lex).snoc ⟨l4, _, rfl, ⟨0, hl₆⟩, .cons n0 t0 .nil⟩, by simp [hlen], ?_, le'.trans (le₀₃.trans lex)⟩
        · assumption
        · assumption
        · assumption
        · obtain ⟨T', t', rfl, hT'⟩ := hu
          exact ⟨hpl1.1, by simp, T', rfl, .inl ⟨t', n0, t0, hT'.up le₆, rfl⟩⟩
        · intro pl hpl
          rcases List.mem_append.mp hpl with q | q
          · exact hok pl q
          · rw [List.mem_singleton.mp q]; exact hpl1
      · repeat ktr_rel
        refine z_if (fun hb2 => ?_) (fun hb2 => ?_)
        · repeat ktr_rel
          rename Fz _ _ _ _ _ _ _ _ _ => F
          refine z_lappend F.m1 ?_
          repeat ktr_rel
          rename Fz _ _ _ _ _ _ _ _ _ => F
          refine ready_list hA.hh F (l := l2) (items := vs2.toArray) ⟨_, hl₃, rfl, _, rfl⟩ ⟨by intro n c h; simp at h, by simp⟩ (by rw [List.size_toArray, hi2.length, sizeLine_eq]; omega)
            (fun j ys H₄ ms₄ => ms₄ = [(R2, listOf (List.toArray ps) n2), (R, listOf (List.toArray vs) n), (P, o'), (I, io)] ∧ ∃ kvs, All2 (PairV H₄) ys kvs ∧ kvs.map (·.1) = ns.take j ∧ ∀ kv ∈ kvs, ∃ t, kv.2 = .int 2 t)
            ⟨rfl, [], .nil, rfl, by simp⟩ ?_ ?_
          · rintro j v ys H₄ ms₄ s₁₁ C mC E₂ hj hv ⟨rfl, kvs, hkv, hks, hk2⟩ le₄ e4 F
            obtain ⟨nj, tj, rfl, hnj⟩ := hi2.at j v (by simpa using hv)
            have g₄ := g₃.up le₄
            clear g₃
            repeat ktr_rel
            rename Fz _ _ _ _ _ _ _ _ _ => F
            refine z_mkF F ?_
            clear F
            intro T s₁₂ H₅ le₅ hT F
            repeat ktr_rel
            refine ⟨H₅, _, F, rfl, rfl, kvs ++ [(nj, Value.int 2 _)], (hkv.mono fun _ _ => PairV.up le₅).snoc (d := (nj, Value.int 2 _)) ⟨T, _, rfl, hT⟩, ?_, ?_⟩
            · rw [List.map_append, hks, List.take_add_one, hnj]; rfl
            · intro kv hx
              rcases List.mem_append.mp hx with q | q
              · exact hk2 kv q
              · rw [List.mem_singleton.mp q]; exact ⟨_, rfl⟩
          · rintro D C ys H₄ ms₄ nn co mC s₁₁ hD hC ⟨rfl, kvs, hkv, hks, hk2⟩ le₄ - F hN
            rw [List.size_toArray, hi2.length, List.take_length] at hks
            refine ⟨mC, hN, fun h' hs => ?_⟩
            replace F := F.endC hC hs
            have g₄ := g₃.up le₄
            clear g₃
            repeat ktr_rel
            rename Fz _ _ _ _ _ _ _ _ _ => F
            have hkl : kvs.length = ns.length := by rw [← hks, List.length_map]
            refine z_dictOf F g₄ hA.hh ⟨nn, F.m0⟩ hkv.1.symm (by rw [hkv.1]; omega) (pairs_of (hkv.mono fun _ _ => PairV.up F.le)) ?_
            clear F
            intro d od s₁₂ hdS hd₀ hO F
            have hnd : (kvs.map (·.1)).Nodup := by rw [hks]; exact hss.imp fun h => Int.ne_of_lt h
            rw [merged_nil_of_nodup _ hnd] at hO
            obtain ⟨H₅, le₅, hd₅, G⟩ := F.freeze hd₀
            clear F
            have F := G.forget (pre := [])
            clear G
            have g₅ := g₄.up le₅
            clear g₄
            have hTab : TabOf prog w H₅ d (fun g => if g ∈ ns then 2 else 0) := ⟨hdS, kvs, hO.at hd₅, fun g => by
              by_cases hg : g ∈ ns
              · left
                rw [← hks] at hg
                obtain ⟨kv, hkm, rfl⟩ := List.mem_map.mp hg
                obtain ⟨t, e⟩ := hk2 kv hkm
                refine ⟨t, ?_⟩
                rw [← hks]
                unfold valueAt
                rw [find_of_nodup hnd hkm]
                simp only [Option.map_some, e]
                rw [if_pos (List.mem_map_of_mem hkm)]
              · right
                refine ⟨?_, by simp [hg]⟩
                unfold valueAt
                rw [List.find?_eq_none.mpr fun kv hkm => ?_]
                · rfl
                · intro q
                  have q' : kv.1 = g := by simpa using q
                  exact hg (by rw [← hks, ← q']; exact List.mem_map_of_mem hkm)⟩
            repeat ktr_rel
            rename Fz _ _ _ _ _ _ _ _ _ => F
            refine cd_new g₅ F.le (hA.deeper.less (by omega)) ?_
            intro x dx od a s₁₃ H₆ n1 st hx hdx hod hN ha
            obtain ⟨H₆, le₆, I1, G⟩ := F.inst st n1 hx hdx hod hN
            clear F
            repeat ktr_rel
            rename Fz _ _ _ _ _ _ _ _ _ => F
            refine z_mkF F ?_
            clear F
            intro T s₁₄ H₇ le₇ hT F
            have lex := le₄.trans (le₅.trans (le₆.trans le₇))
            repeat ktr_rel
            rename Fz _ _ _ _ _ _ _ _ _ => F
            refine z_append (pre := [_]) F (by rw [hvs'.1]; omega) ?_
            clear F
            intro n' s₁₄ F
            repeat ktr_rel
            rename Fz _ _ _ _ _ _ _ _ _ => F
            refine z_lappend F.m0 ?_
            repeat ktr_rel
            rename Fz _ _ _ _ _ _ _ _ _ => F
            refine z_append (pre := []) F (by rw [hps'.1]; omega) ?_
            clear F
            intro n'' s₁₄ F
            repeat ktr_rel
            rename Fz _ _ _ _ _ _ _ _ _ => F
            repeat ktr_rel
            refine ⟨H₇, _, _, [(R2, _), (R, _), (P, o')], F, le₀₃.trans lex, _, _, _, _, o', nss ++ [ns], rfl, ?_, ?_, ?_, ho', (hvs'.mono fun _ _ => TestAt.up lex).snoc ?_, (hps'.mono fun _ _ => IL.up' lex).snoc (hIL.up lex), by simp [hlen], ?_, le'.trans (le₀₃.trans lex)⟩
            · assumption
            · assumption
            · assumption
            · exact ⟨hss, by omega, T, rfl, .inr (.inl ⟨_, x, _, _, hT, ⟨a, d, I1.up le₇, ha.1, ha.2, hTab.1, let ⟨kvs, hd, r⟩ := hTab.2; ⟨kvs, dic_up (le₆.trans le₇) hd, r⟩⟩, fun _ => rfl⟩)⟩
            · intro pl hpl
              rcases List.mem_append.mp hpl with q | q
              · exact hok pl q
              · rw [List.mem_singleton.mp q]; exact hplok
        · repeat ktr_rel
          rename Fz _ _ _ _ _ _ _ _ _ => F
          refine z_lappend F.m1 ?_
          repeat ktr_rel
          rename Fz _ _ _ _ _ _ _ _ _ => F
          refine coverage_spec g₃ F.le (hA.deeper.less (by omega)) hIL hss hplok.2.1 ?_
          intro x H₄ s₁₁ st hcov
          replace F := F.next st
          have g₄ := g₃.up st.le
          clear g₃
          repeat ktr_rel
          rename Fz _ _ _ _ _ _ _ _ _ => F
          refine z_mkF F ?_
          clear F
          intro l3 s₁₂ H₅ le₅ hl₅ F
          have g₅ := g₄.up le₅
          clear g₄
          repeat ktr_rel
          rename Fz _ _ _ _ _ _ _ _ _ => F
          refine cover_tests_spec (vs := [.ref x]) g₅ F.le (hA.deeper.less (by omega)) ⟨0, hl₅⟩ (by simp) ?_
          intro T ws H₆ s₁₃ st₂ hT hws
          obtain ⟨u, rfl, hu⟩ := hws.one
          replace F := F.next st₂
          repeat ktr_rel
          rename Fz _ _ _ _ _ _ _ _ _ => F
          have lex := st.le.trans (le₅.trans st₂.le)
          refine z_append (pre := [_]) F (by rw [hvs'.1]; omega) ?_
          clear F
          intro n' s₁₄ F
          repeat ktr_rel
          rename Fz _ _ _ _ _ _ _ _ _ => F
          refine z_lappend F.m0 ?_
          repeat ktr_rel
          rename Fz _ _ _ _ _ _ _ _ _ => F
          refine z_append (pre := []) F (by rw [hps'.1]; omega) ?_
          clear F
          intro n'' s₁₄ F
          repeat ktr_rel
          rename Fz _ _ _ _ _ _ _ _ _ => F
          repeat ktr_rel
          refine ⟨H₆, _, _, [(R2, _), (R, _), (P, o')], F, le₀₃.trans lex, _, _, _, _, o', nss ++ [ns], rfl, ?_, ?_, ?_, ho', (hvs'.mono fun _ _ => TestAt.up lex).snoc ?_, (hps'.mono fun _ _ => IL.up' lex).snoc (hIL.up lex), by simp [hlen], ?_, le'.trans (le₀₃.trans lex)⟩
          · assumption
          · assumption
          · assumption
          · obtain ⟨T', t', rfl, hT'⟩ := hu
            exact ⟨hss, by omega, T', rfl, .inr (.inr ⟨t', x, hT', CovAt.up (le₅.trans st₂.le) hcov⟩)⟩
          · intro pl hpl
            rcases List.mem_append.mp hpl with q | q
            · exact hok pl q
            · rw [List.mem_singleton.mp q]; exact hplok
  · rintro H' m' cm' ms' s₄ ⟨vs, n, ps, n2, o', nss, rfl, e1, e2, e3, ho', hvs, hps, hlen, hok, le'⟩ F
    have g' := g.up le'
    clear g
    repeat ktr_rel
    rename Fz _ _ _ _ _ _ _ _ _ => F
    refine z_mk F ?_
    clear F
    intro T s₅ hT F
    obtain ⟨H₂, le₂, hT₂, G⟩ := F.freeze hT
    clear F
    obtain ⟨H₃, le₃, hR₃, F⟩ := G.freeze hR2
    clear G
    obtain ⟨H₄, le₄, hR₄, G⟩ := F.freeze hR
    clear F
    have lex := le₂.trans (le₃.trans le₄)
    repeat ktr_rel
    exact h T _ _ nss H₄ _ o' hlen hok G.st G.m0 ho' (le₄ _ _ (le₃ _ _ hT₂)) ⟨R, vs, rfl, ⟨_, hR₄⟩, hvs.mono fun _ _ => TestAt.up lex⟩ ⟨R2, ps, rfl, ⟨_, le₄ _ _ hR₃⟩, hps.mono fun _ _ => IL.up' lex⟩
end te

-- part PL
def goodP (ds : List InfoD) (pl : List Int) (mask : Int) (j : Nat) : Bool := pl.any (· == gAt ds j) && (Builtin.bitAnd (mAt ds j) mask != 0)
def badK (ds : List InfoD) (ks : List Str) (j : Nat) : Bool := !(ks.any (· == kAt ds j))
def stepOk (ds : List InfoD) (ks : List Str) (mask : Int) (pl : List Int) (seen : List Nat) (spot : Nat) : Bool :=
  decide ((seen.take (spot + 1)).filter (goodP ds pl mask) = [seen.getD spot 0]) && decide (((seen.take spot).filter (badK ds ks)).length = 0)
def waysP (ds : List InfoD) (ks : List Str) (mask : Int) : List (List Int) → List Nat → List (List Nat)
  | [], _ => [[]]
  | pl :: rest, seen => (List.range seen.length).flatMap fun spot =>
      if stepOk ds ks mask pl seen spot then (waysP ds ks mask rest (seen.drop (spot + 1))).map (seen.getD spot 0 :: ·) else []
/-- the first place that is good, if all before it may be passed -/
def scanP (good bad : Nat → Bool) : List Nat → Option (Nat × List Nat)
  | [] => none
  | j :: r => if good j then some (j, r) else if bad j then none else scanP good bad r

theorem ways_scan_gen (ds : List InfoD) (ks : List Str) (mask : Int) (pl : List Int) (X : Nat → List Nat → List (List Nat)) : ∀ (suf pre : List Nat), (∀ j ∈ pre, goodP ds pl mask j = false) → (∀ j ∈ pre, badK ds ks j = false) →
    ((List.range suf.length).flatMap fun k => if stepOk ds ks mask pl (pre ++ suf) (pre.length + k) then X ((pre ++ suf).getD (pre.length + k) 0) ((pre ++ suf).drop (pre.length + k + 1)) else []) =
      match scanP (goodP ds pl mask) (badK ds ks) suf with | none => [] | some (j, r) => X j r
  | [], pre, _, _ => rfl
  | j :: r, pre, hg, hb => by
    have fg : pre.filter (goodP ds pl mask) = [] := List.filter_eq_nil_iff.mpr fun a ha => by simp [hg a ha]
    have fb : pre.filter (badK ds ks) = [] := List.filter_eq_nil_iff.mpr fun a ha => by simp [hb a ha]
    rw [List.length_cons, List.range_succ_eq_map, List.flatMap_cons, List.flatMap_map]
    have t0 : (pre ++ j :: r).take (pre.length + 0 + 1) = pre ++ [j] := by
      rw [Nat.add_zero, List.take_append, List.take_of_length_le (by omega), show pre.length + 1 - pre.length = 1 by omega]; rfl
    have t1 : (pre ++ j :: r).take (pre.length + 0) = pre := by rw [Nat.add_zero, List.take_left]
    have gd : (pre ++ j :: r).getD (pre.length + 0) 0 = j := by
      rw [Nat.add_zero, List.getD_eq_getElem?_getD, List.getElem?_append_right (Nat.le_refl _), Nat.sub_self]; rfl
    have d0 : (pre ++ j :: r).drop (pre.length + 0 + 1) = r := by
      rw [Nat.add_zero, List.drop_append, List.drop_of_length_le (by omega), show pre.length + 1 - pre.length = 1 by omega]; rfl
    have e0 : stepOk ds ks mask pl (pre ++ j :: r) (pre.length + 0) = goodP ds pl mask j := by
      unfold stepOk
      rw [t0, t1, gd, fb, List.filter_append, fg]
      cases hj : goodP ds pl mask j <;> simp [hj]
    have shift : ∀ k, pre.length + (k + 1) = (pre ++ [j]).length + k := fun k => by simp; omega
    by_cases hj : goodP ds pl mask j = true
    · have rest : ((List.range r.length).flatMap fun k => if stepOk ds ks mask pl (pre ++ j :: r) (pre.length + (k + 1)) then X ((pre ++ j :: r).getD (pre.length + (k + 1)) 0) ((pre ++ j :: r).drop (pre.length + (k + 1) + 1)) else []) = [] := by
        refine List.flatMap_eq_nil_iff.mpr fun k hk => ?_
        rw [if_neg]
        intro q
        unfold stepOk at q
        rw [Bool.and_eq_true, decide_eq_true_iff] at q
        have hk' : k < r.length := List.mem_range.mp hk
        have tk : (pre ++ j :: r).take (pre.length + (k + 1) + 1) = pre ++ [j] ++ r.take (k + 1) := by
          rw [List.append_cons, List.take_append, List.take_of_length_le (by simp <;> omega)]
          congr 2
          simp <;> omega
        have gk : (pre ++ j :: r).getD (pre.length + (k + 1)) 0 = r[k] := by
          rw [List.getD_eq_getElem?_getD, List.getElem?_append_right (by omega), show pre.length + (k + 1) - pre.length = k + 1 by omega, List.getElem?_cons_succ, List.getElem?_eq_getElem hk']; rfl
        have q1 := q.1
        rw [tk, gk, List.filter_append, List.filter_append, fg, List.filter_cons, if_pos hj, List.filter_nil] at q1
        have q2 : (r.take (k + 1)).filter (goodP ds pl mask) = [] := by
          have := congrArg List.length q1
          simp at this
          exact List.filter_eq_nil_iff.mpr (by simpa using this)
        have q3 : j = r[k] := by
          rw [q2] at q1
          simpa using q1
        have hm : r[k] ∈ r.take (k + 1) := List.mem_take_iff_getElem.mpr ⟨k, by omega, rfl⟩
        have := List.filter_eq_nil_iff.mp q2 _ hm
        rw [← q3] at this
        exact this hj
      have rest' : ((List.range r.length).flatMap fun k => if stepOk ds ks mask pl (pre ++ j :: r) (pre.length + Nat.succ k) then X ((pre ++ j :: r).getD (pre.length + Nat.succ k) 0) ((pre ++ j :: r).drop (pre.length + Nat.succ k + 1)) else []) = [] := rest
      rw [e0, hj, if_pos rfl, gd, d0, rest', List.append_nil]
      unfold scanP
      rw [if_pos hj]
    · have hj' : goodP ds pl mask j = false := Bool.eq_false_iff.mpr hj
      rw [e0, hj', if_neg Bool.false_ne_true, List.nil_append]
      by_cases hbj : badK ds ks j = true
      · unfold scanP
        rw [if_neg hj, if_pos hbj]
        refine List.flatMap_eq_nil_iff.mpr fun k hk => ?_
        rw [if_neg]
        intro q
        unfold stepOk at q
        rw [Bool.and_eq_true, decide_eq_true_iff, decide_eq_true_iff] at q
        have tk : (pre ++ j :: r).take (pre.length + Nat.succ k) = pre ++ [j] ++ r.take k := by
          rw [List.append_cons, List.take_append, List.take_of_length_le (by simp)]
          congr 2
          simp <;> omega
        have q2 := q.2
        rw [tk] at q2
        have := List.length_eq_zero_iff.mp q2
        have := List.filter_eq_nil_iff.mp this j (by simp)
        exact this hbj
      · unfold scanP
        rw [if_neg hj, if_neg hbj]
        have ih := ways_scan_gen ds ks mask pl X r (pre ++ [j]) (fun a ha => by
          rcases List.mem_append.mp ha with h | h
          · exact hg a h
          · rw [List.mem_singleton.mp h]; exact hj') (fun a ha => by
          rcases List.mem_append.mp ha with h | h
          · exact hb a h
          · rw [List.mem_singleton.mp h]; exact Bool.eq_false_iff.mpr hbj)
        rw [← ih]
        congr 1
        funext k
        rw [show pre.length + Nat.succ k = (pre ++ [j]).length + k from shift k, List.append_assoc]
        rfl

theorem ways_scan (ds : List InfoD) (ks : List Str) (mask : Int) (pl : List Int) (rest : List (List Int)) (seen : List Nat) :
    waysP ds ks mask (pl :: rest) seen = match scanP (goodP ds pl mask) (badK ds ks) seen with | none => [] | some (j, r) => (waysP ds ks mask rest r).map (j :: ·) := by
  have := ways_scan_gen ds ks mask pl (fun j r => (waysP ds ks mask rest r).map (j :: ·)) seen [] (by simp) (by simp)
  rw [← this]
  show (List.range seen.length).flatMap _ = _
  congr 1
  funext k
  simp

theorem ways_len (ds : List InfoD) (ks : List Str) (mask : Int) : ∀ (pls : List (List Int)) (seen : List Nat), (waysP ds ks mask pls seen).length ≤ 1
  | [], _ => Nat.le_refl _
  | pl :: rest, seen => by
    rw [ways_scan]
    split
    · exact Nat.zero_le _
    · rw [List.length_map]; exact ways_len ds ks mask rest _
theorem ways_len2 (ds : List InfoD) (ks : List Str) (mask : Int) : ∀ (pls : List (List Int)) (seen : List Nat), ∀ wy ∈ waysP ds ks mask pls seen, wy.length = pls.length
  | [], _, wy, h => by rw [List.mem_singleton.mp h]; rfl
  | pl :: rest, seen, wy, h => by
    rw [ways_scan] at h
    split at h
    · simp at h
    · obtain ⟨wy', h1, rfl⟩ := List.mem_map.mp h
      simp [ways_len2 ds ks mask rest _ wy' h1]

-- part FB
theorem pick_upto1 {vs : List Value} {i : Nat} (h : i + 1 ≤ vs.length) : slicePick vs.toArray none (some ((i : Int) + 1)) none = (vs.take (i + 1)).toArray := by
  have := slicePick_upto vs.toArray (i + 1) (by simpa using h)
  simpa using this
theorem pick_upto0 {vs : List Value} {i : Nat} (h : i ≤ vs.length) : slicePick vs.toArray none (some (i : Int)) none = (vs.take i).toArray := by
  have := slicePick_upto vs.toArray i (by simpa using h)
  simpa using this
theorem pick_from1 {vs : List Value} {i : Nat} (h : i + 1 ≤ vs.length) : slicePick vs.toArray (some ((i : Int) + 1)) none none = (vs.drop (i + 1)).toArray := by
  have := slicePick_from vs.toArray (i + 1) (by simpa using h)
  simpa using this
theorem pick_tail {v : Value} {vs : List Value} : slicePick (v :: vs).toArray (some 1) none none = vs.toArray := by
  have := slicePick_from (v :: vs).toArray 1 (by simp)
  simpa using this
/-- a tuple of texts -/
def KT (H : Heap) (v : Value) (ks : List Str) : Prop := ∃ T vs, v = .ref T ∧ TA H T vs ∧ StrsAre vs ks ∧ ∀ k ∈ ks, PyData.strOk k = true
theorem KT.up {H H' : Heap} {v : Value} {ks : List Str} (x : KT H v ks) (k : Le H H') : KT H' v ks := let ⟨T, vs, e, h, r⟩ := x; ⟨T, vs, e, h.up k, r⟩
theorem any_eqv (k : Str) : ∀ ks : List Str, ((ks.map PyData.str).any fun y => PyData.eqv y (.str k)) = ks.any (· == k)
  | [] => rfl
  | a :: r => by
    simp only [List.map_cons, List.any_cons, any_eqv k r]
    rfl
theorem canLay_strs : ∀ ks : List Str, (∀ k ∈ ks, PyData.strOk k = true) → PyData.canLayAll0 (ks.map PyData.str) = true
  | [], _ => rfl
  | a :: r, h => by simp [PyData.canLayAll0, PyData.canLay0, canLay_strs r (fun k hk => h k (List.mem_cons_of_mem _ hk)), h a (by simp)]
section fb
variable {prog : Program} {w : World} {A : Around} {E : Value → Shared → Prop} {s₀ s : Shared} {H₀ H : Heap} {W : List Addr} {env : Env} {m cm : Str → Option Value} {ms : List (Addr × Obj)} {M : Model}
theorem z_endA {C : Addr} {co : Obj} {mC : Str → Option Value} {v : Value} {y : Str} {py : Pos} {P : Unit → Shared → Prop} (hy : env.kindOf y = some .local) (hC₀ : s₀.heap.get? C = none) (F : Fz s₀ H₀ W env H m cm ((C, co) :: ms) s) (hC : s.heap.Ns C mC)
    (h : ∀ s'' : Shared, s''.heap.Ns C mC → (∀ h', Heap.SameBut C s''.heap h' → Fz s₀ H₀ W env H (upd m y v) cm ms { s'' with heap := h' }) → P () s'') (hk : env.scope.kind = .function := by rfl) :
    wpAny M A (assign (.Name y py) env v) P E s := by
  refine wpAny_assign_Name (wpAny_storeName_local hy F.ns (fun h₁ hn hs => ?_) (by rw [hk]; rfl))
  have F₁ := F.setLocal (tk := s.toks + 1) hn hs
  have hne : C ≠ env.locals := fun e => (List.nodup_cons.mp F.sep).1 (by rw [← e]; exact List.mem_append_right _ (by simp))
  exact h _ (hC.sameBut hs hne) fun h' hs' => F₁.endC hC₀ hs'
theorem Ok.room64 {d : Nat} (x : Ok A d) : A.units + 64 < cLine := by have := x.un; show A.units + 64 < 9900; omega
theorem z_eqI {a b : Addr} {us vs : List Value} {ns ks : List Int} {Q : Value → Shared → Prop} {d : Nat} (hA : Ok A d) (ha : LA s.heap a us) (hb : LA s.heap b vs) (hi : IntsAre us ns) (hj : IntsAre vs ks) (h : Q (.bool (decide (ns = ks))) s) :
    wpAny (model prog w) A (compareOp .Eq (.ref a) (.ref b)) Q E s := ke_eq_ints ha.isList hb.isList hi hj hA.room64 h
theorem z_neI {a b : Addr} {us vs : List Value} {ns ks : List Int} {Q : Value → Shared → Prop} {d : Nat} (hA : Ok A d) (ha : LA s.heap a us) (hb : LA s.heap b vs) (hi : IntsAre us ns) (hj : IntsAre vs ks) (h : Q (.bool (!decide (ns = ks))) s) :
    wpAny (model prog w) A (compareOp .NotEq (.ref a) (.ref b)) Q E s := ke_ne_ints ha.isList hb.isList hi hj hA.room64 h
theorem z_inI {l : Addr} {vs : List Value} {ns : List Int} {k : Int} {t : Tok} {Q : Value → Shared → Prop} (hl : LA s.heap l vs) (hi : IntsAre vs ns) (h : Q (.bool (ns.any (· == k))) s) : wpAny (model prog w) A (compareOp .In (.int k t) (.ref l)) Q E s :=
  in_list_ints hl.isList hi h
theorem z_notInK {v : Value} {ks : List Str} {k : Str} {t : Tok} {Q : Value → Shared → Prop} {d : Nat} (hA : Ok A d) (hv : KT s.heap v ks) (hk : PyData.strOk k = true) (h : Q (.bool (!(ks.any (· == k)))) s) : wpAny (model prog w) A (compareOp .NotIn (.str k t) v) Q E s := by
  obtain ⟨T, vs, rfl, hT, hs, hok⟩ := hv
  refine SeqAt.notIn_tuple_reads (.tuple hT rfl rfl (by simpa using hs.reads s.heap)) (.str k t) (canLay_strs ks hok) hk ?_ (by rw [any_eqv]; exact h)
  have := hA.un
  have h2 : min (PyData.depthAll (ks.map PyData.str)) (PyData.str k).depth ≤ 0 := by
    refine Nat.le_trans (Nat.min_le_right _ _) ?_
    exact Nat.le_of_eq rfl
  show A.units + 1 + _ < 9900
  omega
end fb

-- part WY
def WayR (H : Heap) (v : Value) (wy : List Nat) : Prop := IL H v (toI wy)
theorem WayR.up {H H' : Heap} {v : Value} {wy : List Nat} (k : Le H H') (x : WayR H v wy) : WayR H' v wy := IL.up x k
theorem toI_get {seen : List Nat} {vs : List Value} (hi : IntsAre vs (toI seen)) {i : Nat} (h : i < seen.length) : ∃ t, vs[i]? = some (.int (seen[i] : Int) t) := by
  obtain ⟨t, e⟩ := hi.get i (seen[i] : Int) (by unfold toI; rw [List.getElem?_map, List.getElem?_eq_getElem h]; rfl)
  exact ⟨t, e⟩
theorem toI_at {seen : List Nat} {vs : List Value} (hi : IntsAre vs (toI seen)) {i : Nat} {v : Value} (h : vs[i]? = some v) : ∃ (j : Nat) (t : Tok), v = .int (j : Int) t ∧ seen[i]? = some j := by
  obtain ⟨n, t, rfl, e⟩ := hi.at i v h
  unfold toI at e
  rw [List.getElem?_map] at e
  obtain ⟨j, e1, e2⟩ := Option.map_eq_some_iff.mp e
  exact ⟨j, t, by rw [← e2], e1⟩
theorem toI_take (seen : List Nat) (k : Nat) : (toI seen).take k = toI (seen.take k) := by unfold toI; rw [List.map_take]
theorem toI_drop (seen : List Nat) (k : Nat) : (toI seen).drop k = toI (seen.drop k) := by unfold toI; rw [List.map_drop]
theorem toI_inj {a b : List Nat} : toI a = toI b ↔ a = b := by
  unfold toI
  exact List.map_inj_right fun x y e => Int.ofNat.inj e

theorem All2.cons_inv {α β : Type} {R : α → β → Prop} {vs : List α} {d : β} {ds : List β} (x : All2 R vs (d :: ds)) : ∃ v vr, vs = v :: vr ∧ R v d ∧ All2 R vr ds := by
  obtain ⟨h1, h2⟩ := x
  cases vs with
  | nil => simp at h1
  | cons v vr => exact ⟨v, vr, rfl, h2 0 v d rfl rfl, by simpa using h1, fun i a b ha hb => h2 (i + 1) a b ha hb⟩
theorem filt_yes {α : Type} {L : List α} {p : α → Bool} {j : Nat} {q : α} (hq : L[j]? = some q) (hp : p q = true) : (L.take (j + 1)).filter p = (L.take j).filter p ++ [q] := by
  rw [List.take_add_one, hq, List.filter_append]; simp [hp]
theorem filt_no {α : Type} {L : List α} {p : α → Bool} {j : Nat} {q : α} (hq : L[j]? = some q) (hp : p q = false) : (L.take (j + 1)).filter p = (L.take j).filter p := by
  rw [List.take_add_one, hq, List.filter_append]; simp [hp]
theorem toI_snoc (l : List Nat) (q : Nat) : toI (l ++ [q]) = toI l ++ [(q : Int)] := by unfold toI; rw [List.map_append]; rfl
theorem flatMap_len {α β : Type} {f : α → List β} : ∀ (l : List α), (∀ x ∈ l, (f x).length ≤ 1) → (l.flatMap f).length ≤ l.length
  | [], _ => Nat.le_refl _
  | a :: r, h => by
    rw [List.flatMap_cons, List.length_append, List.length_cons]
    have h1 := h a (by simp)
    have h2 := flatMap_len r fun x hx => h x (List.mem_cons_of_mem _ hx)
    omega
theorem at_info {ds : List InfoD} {j : Nat} (h : j < ds.length) : gAt ds j = ds[j].glyph ∧ kAt ds j = ds[j].kind ∧ mAt ds j = ds[j].mask := by
  unfold gAt kAt mAt
  rw [List.getElem?_eq_getElem h]
  exact ⟨rfl, rfl, rfl⟩
theorem kindOk {d : InfoD} (h : DOk d) : PyData.strOk d.kind = true := by
  rcases h.2.1 with e | e | e | e <;> rw [e] <;> decide +kernel

section wy
variable {prog : Program} {w : World}

/-- the row of infos, opened -/
structure RowAt (H : Heap) (b l : Addr) (vs : List Value) (ds : List InfoD) (a : Str → Option Value) : Prop where
  I : InstOf H b 277 a
  row : a "row" = some (.ref l)
  lst : H.IsList l vs.toArray
  all : All2 (InfoAt H) vs ds
theorem RowAt.up {H H' : Heap} {b l : Addr} {vs : List Value} {ds : List InfoD} {a : Str → Option Value} (k : Le H H') (x : RowAt H b l vs ds a) : RowAt H' b l vs ds a := ⟨x.I.up k, x.row, lst_up k x.lst, x.all.mono fun _ _ => InfoAt.up k⟩

theorem ways_spec {ds : List InfoD} (hds : ∀ d ∈ ds, DOk d) (hlen : ds.length ≤ 7) {ks : List Str} {mask : Int} : ∀ (nss : List (List Int)) {A : Around} {E Q : Value → Shared → Prop} {s : Shared} {H : Heap} {sv pv kv : Value} {b : Addr} {tm : Tok} {seen : List Nat}
    (_ : Gl (hd.heap_1 w.params) H) (_ : Le H s.heap) (_ : Ok A (nss.length + 4)) (_ : BufAt H b ds) (_ : Ls IL H pv nss) (_ : nss.length ≤ 10) (_ : KT H kv ks) (_ : IL H sv (toI seen)) (_ : ∀ j ∈ seen, j < ds.length) (_ : seen.length ≤ 7)
    (_ : ∀ v H' s', St [] H s H' s' → Ls WayR H' v (waysP ds ks mask nss seen) → Q v s'),
    wpAny (model prog w) A (call (.ref 471) [sv, .ref b, pv, kv, .int mask tm]) Q E s := by
  intro nss
  induction nss with
  | nil =>
    intro A E Q s H sv pv kv b tm seen g le hA hb hp hp10 hk hsn hjs hs7 h
    refine' z_enter (ms := []) (binds := [("seen", sv), ("rows", .ref b), ("plain", pv), ("kinds", kv), ("mask", .int mask tm)]) g le (by simp) (by simp) ?k6 ?k7 hA.room ?kb ?kk ?kn ?_ ?c1 ?c2 ?c3
    tb_rel
    intro L s₁ F
    obtain ⟨lp, ps, rfl, hlp, hps⟩ := hp
    have hps0 : ps = [] := List.length_eq_zero_iff.mp hps.1
    subst hps0
    repeat ktr_rel
    rename Fz _ _ _ _ _ _ _ _ _ => F
    refine z_len F (F.lst hlp.isList) (by rw [sizeLine_eq]; decide) ?_
    clear F
    intro t₁ s₂ F
    repeat ktr_rel
    rename Fz _ _ _ _ _ _ _ _ _ => F
    refine z_mkF F ?_
    clear F
    intro T1 s₃ H₁ le₁ hT1 F
    have g₁ := g.up le₁
    clear g
    repeat ktr_rel
    rename Fz _ _ _ _ _ _ _ _ _ => F
    refine z_mkF F ?_
    clear F
    intro T2 s₄ H₂ le₂ hT2 F
    repeat ktr_rel
    exact h _ H₂ _ F.st ⟨T2, [.ref T1], rfl, ⟨0, hT2⟩, All2.nil.snoc ⟨T1, [], rfl, ⟨0, le₂ _ _ hT1⟩, .nil⟩⟩
  | cons pl rest ih =>
    intro A E Q s H sv pv kv b tm seen g le hA hb hp hp10 hk hsn hjs hs7 h
    refine' z_enter (ms := []) (binds := [("seen", sv), ("rows", .ref b), ("plain", pv), ("kinds", kv), ("mask", .int mask tm)]) g le (by simp) (by simp) ?k6 ?k7 hA.room ?kb ?kk ?kn ?_ ?c1 ?c2 ?c3
    tb_rel
    intro L s₁ F
    obtain ⟨lp, ps, rfl, hlp, hps⟩ := hp
    obtain ⟨ls, ss, rfl, hls, hss⟩ := hsn
    have hb' := hb
    obtain ⟨ab, lb, vb, Ib, hrow, hlb, hvb⟩ := hb'
    have hR0 : RowAt H b lb vb ds ab := ⟨Ib, hrow, hlb, hvb⟩
    clear Ib hlb hvb
    obtain ⟨p0, pr, rfl, hp0, hpr⟩ := hps.cons_inv
    obtain ⟨lp0, pvs, rfl, hlp0, hpi⟩ := hp0
    have hsl : ss.length = seen.length := by rw [hss.length]; unfold toI; rw [List.length_map]
    repeat ktr_rel
    rename Fz _ _ _ _ _ _ _ _ _ => F
    refine z_len F (F.lst hlp.isList) (by rw [List.size_toArray, hps.1, sizeLine_eq]; omega) ?_
    clear F
    intro t₁ s₂ F
    rw [List.size_toArray, hps.1]
    repeat ktr_rel
    refine (if_neg (by simp; omega)).mpr ?_
    repeat ktr_rel
    rename Fz _ _ _ _ _ _ _ _ _ => F
    refine z_mk F ?_
    clear F
    intro R s₃ hR F
    repeat ktr_rel
    rename Fz _ _ _ _ _ _ _ _ _ => F
    refine z_len F (F.lst hls.isList) (by rw [List.size_toArray, hsl, sizeLine_eq]; omega) ?_
    clear F
    intro t₂ s₄ F
    rw [List.size_toArray, hsl]
    repeat ktr_rel
    rename Fz _ _ _ _ _ _ _ _ _ => F
    refine z_range F ?_
    clear F
    intro r u v s₅ hr F
    refine for_range0 hA.hh F (by omega) (by rfl)
      (fun i H' m' cm' ms' => ∃ vs n, ms' = [(R, listOf (List.toArray vs) n)] ∧ m' "found" = some (.ref R) ∧ m' "seen" = some (.ref ls) ∧ cm' "rows" = some (.ref b) ∧ cm' "plain" = some (.ref lp) ∧ cm' "kinds" = some kv ∧ cm' "mask" = some (.int mask tm) ∧ Le H H' ∧
        All2 (WayR H') vs ((List.range i).flatMap fun spot => if stepOk ds ks mask pl seen spot then (waysP ds ks mask rest (seen.drop (spot + 1))).map (seen.getD spot 0 :: ·) else []))
      ⟨[], _, rfl, rfl, rfl, rfl, rfl, rfl, rfl, .refl, .nil⟩ ?_ ?_
    · rintro i v I io H' m' cm' ms' s₆ E' hi ⟨t, rfl⟩ ⟨vs, n, rfl, e1, e2, e3, e4, e5, e6, le', hvs⟩ F
      have g' := g.up le'
      clear g
      have F : Fz _ _ _ _ _ _ _ [(R, listOf (List.toArray vs) n), (I, io)] _ := F
      obtain ⟨tsi, hsi⟩ := toI_get hss hi
      have hR1 := hR0.up le'
      have hlp1 := hlp.up le'
      have hls1 := hls.up le'
      have hlp01 := hlp0.up le'
      have hk1 := hk.up le'
      repeat ktr_rel
      rename Fz _ _ _ _ _ _ _ _ _ => F
      refine z_itemL (F.lst hls1.isList) (x := .int (seen[i] : Int) tsi) (by simpa using hsi) ?_ (by omega) (by omega)
      repeat ktr_rel
      refine z_compA (by rfl) rfl (by decide) rfl (by decide) rfl ?_
      repeat ktr_rel
      rename Fz _ _ _ _ _ _ _ _ _ => F
      refine z_mk F ?_
      clear F
      intro sl s₇ hsl' F
      repeat ktr_rel
      rename Fz _ _ _ _ _ _ _ _ _ => F
      refine z_slice (items := ss) (F.lst hls1.isList) F.m0 .none (.int _ _) .none (by decide) (by omega) ?_
      rw [pick_upto1 (by omega)]
      replace F := F.forget (pre := [])
      refine z_mkF F ?_
      clear F
      intro l3 s₈ H₁ le₁ hl3 F
      have g₁ := g'.up le₁
      clear g'
      have hR2 := hR1.up le₁
      have hlp2 := hlp1.up le₁
      have hls2 := hls1.up le₁
      have hlp02 := hlp01.up le₁
      have hk2 := hk1.up le₁
      have hss3 : IntsAre (ss.take (i + 1)) (toI (seen.take (i + 1))) := by rw [← toI_take]; exact hss.take _
      refine ready_list hA.hh F (items := (ss.take (i + 1)).toArray) ⟨_, hl3, rfl, _, rfl⟩ ⟨by intro n c h; simp at h; rcases h with ⟨rfl, rfl⟩ | ⟨rfl, rfl⟩ | ⟨rfl, rfl⟩ <;> exact ⟨rfl, rfl⟩, by simp⟩ (by rw [List.size_toArray, List.length_take, sizeLine_eq]; omega)
        (fun j ys H₂ ms₂ => ms₂ = [(R, listOf (List.toArray vs) n), (I, io)] ∧ IntsAre ys (toI (((seen.take (i + 1)).take j).filter (goodP ds pl mask)))) ⟨rfl, .nil⟩ ?_ ?_
      · rintro j v ys H₂ ms₂ s₉ C mC E₂ hj hv ⟨rfl, hys⟩ le₂ e7 F
        obtain ⟨q, tq, rfl, hq⟩ := toI_at hss3 (by simpa using hv)
        have hql : q < ds.length := hjs q (List.mem_of_mem_take (List.mem_of_getElem? hq))
        have g₂ := g₁.up le₂
        clear g₁
        have hR3 := hR2.up le₂
        have I3 := hR3.I
        have row3 := hR3.row
        obtain ⟨vi, hvi, hin⟩ := hR3.all.get (List.getElem?_eq_getElem hql)
        obtain ⟨x, ax, tt1, tt2, tt3, rfl, Ix, hg1, hg2, hg3⟩ := hin
        obtain ⟨ag, ak, am⟩ := at_info hql
        have hplen : pr.length + 1 ≤ 1000 := by rw [hpr.1]; simp at hp10; omega
        repeat ktr_rel
        rename Fz _ _ _ _ _ _ _ _ _ => F
        refine z_itemL (F.lst hR3.lst) (x := .ref x) (by simpa using hvi) ?_ (by omega) (by rw [hR3.all.1]; omega)
        repeat ktr_rel
        rename Fz _ _ _ _ _ _ _ _ _ => F
        refine z_itemL (F.lst (hlp2.up le₂).isList) (x := .ref lp0) rfl ?_ (by decide) hplen
        refine z_inI ((hlp02.up le₂).up F.le) hpi ?_
        repeat ktr_rel
        rw [← ag]
        refine z_if (fun hb1 => ?_) (fun hb1 => ?_)
        · repeat ktr_rel
          rename Fz _ _ _ _ _ _ _ _ _ => F
          refine z_itemL (F.lst hR3.lst) (x := .ref x) (by simpa using hvi) ?_ (by omega) (by rw [hR3.all.1]; omega)
          repeat ktr_rel
          rw [← am]
          refine z_if (fun hb2 => ?_) (fun hb2 => ?_)
          · repeat ktr_rel
            rename Fz _ _ _ _ _ _ _ _ _ => F
            repeat ktr_rel
            refine ⟨H₂, _, F, rfl, rfl, ?_⟩
            rw [filt_yes hq (show goodP ds pl mask q = true by unfold goodP; rw [hb1, hb2]; rfl), toI_snoc]
            exact IntsAre.snoc hys _ _
          · repeat ktr_rel
            rename Fz _ _ _ _ _ _ _ _ _ => F
            repeat ktr_rel
            refine ⟨H₂, _, F, rfl, rfl, ?_⟩
            rw [filt_no hq (show goodP ds pl mask q = false by unfold goodP; rw [Bool.eq_false_iff.mpr hb2, Bool.and_false])]
            exact hys
        · repeat ktr_rel
          rename Fz _ _ _ _ _ _ _ _ _ => F
          repeat ktr_rel
          refine ⟨H₂, _, F, rfl, rfl, ?_⟩
          rw [filt_no hq (show goodP ds pl mask q = false by unfold goodP; rw [Bool.eq_false_iff.mpr hb1, Bool.false_and])]
          exact hys
      · rintro D C ys H₂ ms₂ nn co mC s₉ hD hC ⟨rfl, hys⟩ le₂ - F hN
        refine z_endA (by rfl) hC F hN fun s'' hN' hF => ⟨mC, hN', fun h' hs => ?_⟩
        clear F
        have F := hF h' hs
        clear hF
        rw [show (seen.take (i + 1)).take (ss.take (i + 1)).toArray.size = seen.take (i + 1) from List.take_of_length_le (by rw [List.size_toArray, List.length_take, List.length_take]; omega)] at hys
        have g₂ := g₁.up le₂
        clear g₁
        have hR3 := hR2.up le₂
        have hlp3 := hlp2.up le₂
        have hls3 := hls2.up le₂
        have hlp03 := hlp02.up le₂
        have hk3 := hk2.up le₂
        repeat ktr_rel
        rename Fz _ _ _ _ _ _ _ _ _ => F
        refine z_mk F ?_
        clear F
        intro T s₁₀ hT F
        refine z_eqI hA.deeper ⟨nn, F.m1⟩ ⟨0, F.m0⟩ hys (.cons _ _ .nil) ?_
        replace F := F.forget (pre := [])
        replace F := F.forget (pre := [])
        have hgd : seen.getD i 0 = seen[i] := by rw [List.getD_eq_getElem?_getD, List.getElem?_eq_getElem hi]; rfl
        rw [show decide (toI ((seen.take (i + 1)).filter (goodP ds pl mask)) = [(seen[i] : Int)]) = decide ((seen.take (i + 1)).filter (goodP ds pl mask) = [seen.getD i 0]) from decide_eq_decide.mpr (by rw [hgd]; exact toI_inj (b := [seen[i]]))]
        have hrange : ∀ X : List (List Nat), ((List.range (i + 1)).flatMap fun spot => if stepOk ds ks mask pl seen spot then (waysP ds ks mask rest (seen.drop (spot + 1))).map (seen.getD spot 0 :: ·) else []) =
            ((List.range i).flatMap fun spot => if stepOk ds ks mask pl seen spot then (waysP ds ks mask rest (seen.drop (spot + 1))).map (seen.getD spot 0 :: ·) else []) ++ (if stepOk ds ks mask pl seen i then (waysP ds ks mask rest (seen.drop (i + 1))).map (seen.getD i 0 :: ·) else []) := fun _ => by
          rw [List.range_succ, List.flatMap_append]; simp
        repeat ktr_rel
        refine z_if (fun hb1 => ?_) (fun hb1 => ?_)
        · repeat ktr_rel
          rename Fz _ _ _ _ _ _ _ _ _ => F
          refine z_mk F ?_
          clear F
          intro sl s₁₁ hsl' F
          repeat ktr_rel
          rename Fz _ _ _ _ _ _ _ _ _ => F
          refine z_slice (items := ss) (F.lst hls3.isList) F.m0 .none (.int _ _) .none (by decide) (by omega) ?_
          rw [pick_upto0 (by omega)]
          replace F := F.forget (pre := [])
          refine z_mkF F ?_
          clear F
          intro l4 s₁₂ H₃ le₃ hl4 F
          have g₃ := g₂.up le₃
          clear g₂
          have hR4 := hR3.up le₃
          have hk4 := hk3.up le₃
          have hss4 : IntsAre (ss.take i) (toI (seen.take i)) := by rw [← toI_take]; exact hss.take _
          refine ready_list hA.hh F (items := (ss.take i).toArray) ⟨_, hl4, rfl, _, rfl⟩ ⟨by intro n c h; simp at h; rcases h with ⟨rfl, rfl⟩ | ⟨rfl, rfl⟩ <;> exact ⟨rfl, rfl⟩, by simp⟩ (by rw [List.size_toArray, List.length_take, sizeLine_eq]; omega)
            (fun j ys H₂ ms₂ => ms₂ = [(R, listOf (List.toArray vs) n), (I, io)] ∧ IntsAre ys (toI (((seen.take i).take j).filter (badK ds ks)))) ⟨rfl, .nil⟩ ?_ ?_
          · rintro j v ys H₄ ms₂ s₁₃ C mC E₂ hj hv ⟨rfl, hys⟩ le₄ e7 F
            obtain ⟨q, tq, rfl, hq⟩ := toI_at hss4 (by simpa using hv)
            have hql : q < ds.length := hjs q (List.mem_of_mem_take (List.mem_of_getElem? hq))
            have g₄ := g₃.up le₄
            clear g₃
            have hR5 := hR4.up le₄
            have I3 := hR5.I
            have row3 := hR5.row
            obtain ⟨vi, hvi, hin⟩ := hR5.all.get (List.getElem?_eq_getElem hql)
            obtain ⟨x, ax, tt1, tt2, tt3, rfl, Ix, hg1, hg2, hg3⟩ := hin
            obtain ⟨ag, ak, am⟩ := at_info hql
            repeat ktr_rel
            rename Fz _ _ _ _ _ _ _ _ _ => F
            refine z_itemL (F.lst hR5.lst) (x := .ref x) (by simpa using hvi) ?_ (by omega) (by rw [hR5.all.1]; omega)
            repeat ktr_rel
            rename Fz _ _ _ _ _ _ _ _ _ => F
            refine z_notInK hA.deeper ((hk4.up le₄).up F.le) (kindOk (hds _ (List.getElem_mem hql))) ?_
            repeat ktr_rel
            rw [← ak]
            refine z_if (fun hb2 => ?_) (fun hb2 => ?_)
            · repeat ktr_rel
              rename Fz _ _ _ _ _ _ _ _ _ => F
              repeat ktr_rel
              refine ⟨H₄, _, F, rfl, rfl, ?_⟩
              rw [filt_yes hq (show badK ds ks q = true from hb2), toI_snoc]
              exact IntsAre.snoc hys _ _
            · repeat ktr_rel
              rename Fz _ _ _ _ _ _ _ _ _ => F
              repeat ktr_rel
              refine ⟨H₄, _, F, rfl, rfl, ?_⟩
              rw [filt_no hq (show badK ds ks q = false from Bool.eq_false_iff.mpr hb2)]
              exact hys
          · rintro D2 C2 ys2 H₄ ms₂ nn2 co2 mC2 s₁₃ hD2 hC2 ⟨rfl, hys2⟩ le₄ - F hN2
            refine ⟨mC2, hN2, fun h' hs => ?_⟩
            replace F := F.endC hC2 hs
            rw [show (seen.take i).take (ss.take i).toArray.size = seen.take i from List.take_of_length_le (by rw [List.size_toArray, List.length_take, List.length_take]; omega)] at hys2
            have hy2l : ys2.length = ((seen.take i).filter (badK ds ks)).length := by rw [hys2.length]; unfold toI; rw [List.length_map]
            have hy27 : ys2.length ≤ 7 := by
              rw [hy2l]
              refine Nat.le_trans (List.length_filter_le _ _) ?_
              rw [List.length_take]; omega
            have g₄ := g₃.up le₄
            clear g₃
            have le24 := le₃.trans le₄
            have hls4 := hls3.up le24
            have hlp4 := hlp3.up le24
            have hk5 := hk3.up le24
            have hb4 := BufAt.up (le'.trans (le₁.trans (le₂.trans le24))) hb
            have hpr4 := hpr.mono fun _ _ => IL.up' (le'.trans (le₁.trans (le₂.trans le24)))
            repeat ktr_rel
            rename Fz _ _ _ _ _ _ _ _ _ => F
            refine z_len F ⟨_, F.m0, rfl, _, rfl⟩ (by rw [List.size_toArray, sizeLine_eq]; omega) ?_
            clear F
            intro t₅ s₁₄ F
            rw [List.size_toArray, hy2l]
            replace F := F.forget (pre := [])
            repeat ktr_rel
            refine z_if (fun hb2 => ?_) (fun hb2 => ?_)
            · have hyes : stepOk ds ks mask pl seen i = true := by
                unfold stepOk
                rw [hb1, Bool.true_and, decide_eq_true_iff]
                simpa using hb2
              repeat ktr_rel
              rename Fz _ _ _ _ _ _ _ _ _ => F
              refine z_mk F ?_
              clear F
              intro sl s₁₅ hsl' F
              repeat ktr_rel
              rename Fz _ _ _ _ _ _ _ _ _ => F
              refine z_slice (items := ss) (F.lst hls4.isList) F.m0 (.int _ _) .none .none (by decide) (by omega) ?_
              rw [pick_from1 (by omega)]
              replace F := F.forget (pre := [])
              refine z_mkF F ?_
              clear F
              intro l5 s₁₆ H₅ le₅ hl5 F
              have g₅ := g₄.up le₅
              clear g₄
              repeat ktr_rel
              rename Fz _ _ _ _ _ _ _ _ _ => F
              refine z_mk F ?_
              clear F
              intro sl s₁₅ hsl' F
              repeat ktr_rel
              rename Fz _ _ _ _ _ _ _ _ _ => F
              refine z_slice (items := .ref lp0 :: pr) (F.lst (hlp4.up le₅).isList) F.m0 (.int _ _) .none .none (by decide) (by have := hpr.1; simp at hp10 ⊢; omega) ?_
              rw [pick_tail]
              replace F := F.forget (pre := [])
              refine z_mkF F ?_
              clear F
              intro l6 s₁₇ H₆ le₆ hl6 F
              have g₆ := g₅.up le₆
              clear g₅
              repeat ktr_rel
              rename Fz _ _ _ _ _ _ _ _ _ => F
              have le56 := le₅.trans le₆
              have hA5 : Ok A ((rest.length + 4) + 1) := hA.less (by simp)
              refine ih g₆ F.le hA5.deeper (BufAt.up le56 hb4) ⟨l6, pr, rfl, ⟨0, hl6⟩, hpr4.mono fun _ _ => IL.up' le56⟩ (by simp at hp10; omega) (hk5.up le56) (seen := seen.drop (i + 1)) ⟨l5, ss.drop (i + 1), rfl, ⟨0, le₆ _ _ hl5⟩, by rw [← toI_drop]; exact hss.drop _⟩
                (fun j hj => hjs j (List.mem_of_mem_drop hj)) (by rw [List.length_drop]; omega) ?_
              intro v H₇ s₁₈ st hw
              obtain ⟨lw, wvs, rfl, hlw, hwv⟩ := hw
              replace F := F.next st
              have g₇ := g₆.up st.le
              clear g₆
              repeat ktr_rel
              rename Fz _ _ _ _ _ _ _ _ _ => F
              have hwl : wvs.length = (waysP ds ks mask rest (seen.drop (i + 1))).length := hwv.1
              have hw1 := ways_len ds ks mask rest (seen.drop (i + 1))
              have hvl : vs.length ≤ 7 := by
                rw [hvs.1]
                refine Nat.le_trans (flatMap_len _ fun k _ => ?_) (by rw [List.length_range]; omega)
                split
                · rw [List.length_map]; exact ways_len ds ks mask rest _
                · simp
              have le17 := le₁.trans (le₂.trans (le24.trans (le56.trans st.le)))
              have hat : upd (fun _ => none) "at" (Value.int (seen[i] : Int) tsi) "at" = some (Value.int (seen[i] : Int) tsi) := rfl
              refine for_list hA.hh F (items := wvs.toArray) hlw.isList (by rfl)
                (fun k H' m' cm' ms' => ∃ vs' n', ms' = [(R, listOf (List.toArray vs') n'), (I, io)] ∧ m' "found" = some (.ref R) ∧ m' "seen" = some (.ref ls) ∧ m' "at" = some (.int (seen[i] : Int) tsi) ∧ cm' "rows" = some (.ref b) ∧ cm' "plain" = some (.ref lp) ∧ cm' "kinds" = some kv ∧ cm' "mask" = some (.int mask tm) ∧ Le H₇ H' ∧
                  All2 (WayR H') vs' (((List.range i).flatMap fun spot => if stepOk ds ks mask pl seen spot then (waysP ds ks mask rest (seen.drop (spot + 1))).map (seen.getD spot 0 :: ·) else []) ++ ((waysP ds ks mask rest (seen.drop (i + 1))).take k).map (seen.getD i 0 :: ·)))
                ⟨vs, n, rfl, by assumption, by assumption, by rfl, e3, e4, e5, e6, .refl, by simpa using hvs.mono fun _ _ => WayR.up le17⟩ ?_ ?_
              · rintro k v J jo H₈ m₈ cm₈ ms₈ s₁₉ E₃ hk' hvk ⟨vs', n', rfl, f1, f2, f3, f4, f5, f6, f7, le₈, hvs'⟩ F
                have hkw : k < (waysP ds ks mask rest (seen.drop (i + 1))).length := by rw [← hwl]; simpa using hk'
                have hwk := List.getElem?_eq_getElem hkw
                obtain ⟨v', hv', hwr⟩ := hwv.get hwk
                have hvv : v = v' := by
                  have e8 : wvs[k]? = some v := by simpa using hvk
                  rw [hv'] at e8
                  exact (Option.some.inj e8).symm
                subst hvv
                obtain ⟨ly, yv, rfl, hly, hyv⟩ := hwr
                have hyl : yv.length ≤ 10 := by
                  rw [hyv.length]
                  unfold toI
                  rw [List.length_map, ways_len2 ds ks mask rest _ _ (List.getElem_mem hkw)]
                  simp at hp10; omega
                have hv8 : vs'.length ≤ 8 := by
                  have h1 := hvs'.1
                  rw [List.length_append, List.length_map, List.length_take, ← hvs.1] at h1
                  omega
                have g₈ := g₇.up le₈
                clear g₇
                have F : Fz _ _ _ _ _ _ _ [(R, listOf (List.toArray vs') n'), (I, io), (J, jo)] _ := F
                repeat ktr_rel
                rename Fz _ _ _ _ _ _ _ _ _ => F
                refine z_lappend F.m0 ?_
                repeat ktr_rel
                rename Fz _ _ _ _ _ _ _ _ _ => F
                refine z_mk F ?_
                clear F
                intro T1 s₂₀ hT1 F
                repeat ktr_rel
                rename Fz _ _ _ _ _ _ _ _ _ => F
                refine z_addL ⟨0, F.m0⟩ ((hly.up le₈).up F.le) (by simp; omega) ?_
                replace F := F.forget (pre := [])
                refine z_mkF F ?_
                clear F
                intro l7 s₂₁ H₉ le₉ hl7 F
                repeat ktr_rel
                rename Fz _ _ _ _ _ _ _ _ _ => F
                refine z_append (pre := []) F (by omega) ?_
                clear F
                intro n'' s₂₂ F
                repeat ktr_rel
                rename Fz _ _ _ _ _ _ _ _ _ => F
                repeat ktr_rel
                refine ⟨H₉, _, _, [(R, _), (I, io)], F, le₉, _, _, rfl, ?_, ?_, ?_, f4, f5, f6, f7, le₈.trans le₉, ?_⟩
                · assumption
                · assumption
                · assumption
                · rw [List.take_add_one, hwk, List.map_append, ← List.append_assoc]
                  refine (hvs'.mono fun _ _ => WayR.up le₉).snoc ⟨l7, _, rfl, ⟨0, hl7⟩, ?_⟩
                  rw [hgd]
                  exact .cons _ _ hyv
              · rintro H₈ m₈ cm₈ ms₈ s₁₉ ⟨vs', n', rfl, f1, f2, f3, f4, f5, f6, f7, le₈, hvs'⟩ F
                rw [List.size_toArray, hwl, List.take_length] at hvs'
                repeat ktr_rel
                rename Fz _ _ _ _ _ _ _ _ _ => F
                repeat ktr_rel
                refine ⟨H₈, _, _, [(R, _)], F, le17.trans le₈, vs', _, rfl, f1, f2, f4, f5, f6, f7, le'.trans (le17.trans le₈), ?_⟩
                rw [hrange [], hyes, if_pos rfl]
                exact hvs'
            · repeat ktr_rel
              rename Fz _ _ _ _ _ _ _ _ _ => F
              have hno : stepOk ds ks mask pl seen i = false := by
                unfold stepOk
                rw [hb1, Bool.true_and, decide_eq_false_iff_not]
                simpa using hb2
              repeat ktr_rel
              refine ⟨H₄, _, _, [(R, _)], F, le₁.trans (le₂.trans le24), vs, _, rfl, ?_, ?_, e3, e4, e5, e6, le'.trans (le₁.trans (le₂.trans le24)), ?_⟩
              · assumption
              · assumption
              · rw [hrange [], hno, if_neg Bool.false_ne_true, List.append_nil]
                exact hvs.mono fun _ _ => WayR.up (le₁.trans (le₂.trans le24))
        · repeat ktr_rel
          rename Fz _ _ _ _ _ _ _ _ _ => F
          have hno : stepOk ds ks mask pl seen i = false := by unfold stepOk; rw [Bool.eq_false_iff.mpr hb1, Bool.false_and]
          repeat ktr_rel
          refine ⟨H₂, _, _, [(R, _)], F, le₁.trans le₂, vs, _, rfl, ?_, ?_, e3, e4, e5, e6, le'.trans (le₁.trans le₂), ?_⟩
          · assumption
          · assumption
          · rw [hrange [], hno, if_neg Bool.false_ne_true, List.append_nil]
            exact hvs.mono fun _ _ => WayR.up (le₁.trans le₂)
    · rintro H' m' cm' ms' s₆ ⟨vs, n, rfl, e1, e2, e3, e4, e5, e6, le', hvs⟩ F
      repeat ktr_rel
      rename Fz _ _ _ _ _ _ _ _ _ => F
      obtain ⟨H₂, le₂, hR₂, G⟩ := F.freeze hR
      clear F
      repeat ktr_rel
      exact h _ H₂ _ G.st ⟨R, vs, rfl, ⟨_, hR₂⟩, hvs.mono fun _ _ => WayR.up le₂⟩
end wy

-- part FO
def remL (n : Nat) (step here : Int) : List Nat := if step = 1 then (List.range n).drop here.toNat else (List.range (here + 1).toNat).reverse
theorem remL_up {n : Nat} {here : Int} (h0 : 0 ≤ here) (h1 : here < n) : remL n 1 here = here.toNat :: remL n 1 (here + 1) := by
  unfold remL
  rw [if_pos rfl, if_pos rfl]
  have hl : here.toNat < (List.range n).length := by rw [List.length_range]; omega
  rw [List.drop_eq_getElem_cons hl, List.getElem_range, show (here + 1).toNat = here.toNat + 1 by omega]
theorem remL_up_end {n : Nat} {here : Int} (h1 : (n : Int) ≤ here) : remL n 1 here = [] := by
  unfold remL
  rw [if_pos rfl, List.drop_of_length_le (by rw [List.length_range]; omega)]
theorem remL_down {n : Nat} {here : Int} (h0 : 0 ≤ here) : remL n (-1) here = here.toNat :: remL n (-1) (here + -1) := by
  unfold remL
  rw [if_neg (by decide), if_neg (by decide), show (here + 1).toNat = here.toNat + 1 by omega, List.range_succ, List.reverse_append, show (here + -1 + 1).toNat = here.toNat by omega]
  rfl
theorem remL_down_end {n : Nat} {here : Int} (h0 : here < 0) : remL n (-1) here = [] := by
  unfold remL
  rw [if_neg (by decide), show (here + 1).toNat = 0 by omega]; rfl
def OkHere (n : Nat) (step here : Int) : Prop := (step = 1 ∧ 0 ≤ here ∧ here ≤ n) ∨ (step = -1 ∧ -1 ≤ here ∧ here < n)
theorem OkHere.go {n : Nat} {step here : Int} (h : OkHere n step here) (h0 : 0 ≤ here) (h1 : here < n) : remL n step here = here.toNat :: remL n step (here + step) ∧ OkHere n step (here + step) := by
  rcases h with ⟨rfl, a, b⟩ | ⟨rfl, a, b⟩
  · exact ⟨remL_up h0 h1, .inl ⟨rfl, by omega, by omega⟩⟩
  · exact ⟨remL_down h0, .inr ⟨rfl, by omega, by omega⟩⟩
theorem OkHere.stop {n : Nat} {step here : Int} (h : OkHere n step here) (h0 : ¬ (0 ≤ here ∧ here < n)) : remL n step here = [] := by
  rcases h with ⟨rfl, a, b⟩ | ⟨rfl, a, b⟩
  · exact remL_up_end (by omega)
  · exact remL_down_end (by omega)
theorem OkHere.start {n : Nat} {step : Int} {a : Nat} (hs : step = 1 ∨ step = -1) (h : a < n) : OkHere n step ((a : Int) + step) := by
  rcases hs with rfl | rfl
  · exact .inl ⟨rfl, by omega, by omega⟩
  · exact .inr ⟨rfl, by omega, by omega⟩

def walkP (ign good bad : Nat → Bool) : List Nat → Option Nat
  | [] => none
  | j :: r => if ign j then walkP ign good bad r else if good j then some j else if bad j then none else walkP ign good bad r
theorem walk_cons (ign good bad : Nat → Bool) (j : Nat) (r : List Nat) : walkP ign good bad (j :: r) = if ign j then walkP ign good bad r else if good j then some j else if bad j then none else walkP ign good bad r := rfl
theorem walk_scan (ign good bad : Nat → Bool) : ∀ l : List Nat, walkP ign good bad l = (scanP good bad (l.filter fun j => !ign j)).map (·.1)
  | [] => rfl
  | j :: r => by
    have ih := walk_scan ign good bad r
    by_cases h : ign j = true
    · have e : (j :: r).filter (fun j => !ign j) = r.filter (fun j => !ign j) := List.filter_cons_of_neg (by simp [h])
      rw [e]
      unfold walkP
      rw [if_pos h, ih]
    · have e : (j :: r).filter (fun j => !ign j) = j :: r.filter (fun j => !ign j) := List.filter_cons_of_pos (by simp [h])
      rw [e]
      unfold walkP scanP
      rw [if_neg h]
      by_cases hg : good j = true
      · rw [if_pos hg, if_pos hg]; rfl
      · rw [if_neg hg, if_neg hg]
        by_cases hb : bad j = true
        · rw [if_pos hb, if_pos hb]; rfl
        · rw [if_neg hb, if_neg hb, ih]
theorem walk_mem {ign good bad : Nat → Bool} : ∀ {l : List Nat} {j : Nat}, walkP ign good bad l = some j → j ∈ l
  | [], j, h => by simp [walkP] at h
  | a :: r, j, h => by
    unfold walkP at h
    split at h
    · exact List.mem_cons_of_mem _ (walk_mem h)
    · split at h
      · cases h; exact List.mem_cons_self
      · split at h
        · cases h
        · exact List.mem_cons_of_mem _ (walk_mem h)
def nearP (ign ok : Nat → Bool) (l : List Nat) : Option Nat := l.find? fun j => !ign j && ok j
theorem near_cons (ign ok : Nat → Bool) (j : Nat) (r : List Nat) : nearP ign ok (j :: r) = if (!ign j && ok j) = true then some j else nearP ign ok r := by
  unfold nearP
  rw [List.find?_cons]
  cases h : (!ign j && ok j) <;> simp [h]
def optI : Option Nat → Int | none => -1 | some j => j

section fo
variable {prog : Program} {w : World} {A : Around} {E Q : Value → Shared → Prop} {s : Shared} {H : Heap}

structure ScO (prog : Program) (w : World) (H : Heap) (x : Addr) (sc : Sc) (a ab : Str → Option Value) (b gd lk lb : Addr) (vb : List Value) (t : Tok) : Prop where
  I : InstOf H x 65 a
  hb : a "buffer" = some (.ref b)
  hg : a "gdef" = some (.ref gd)
  hl : a "lookup" = some (.ref lk)
  hm : a "mask" = some (.int sc.mask t)
  R : RowAt H b lb vb sc.ds ab
  G : GdefAt prog w H gd sc.f
  Lk : LookAt H lk sc.flag
theorem SceneAt.open {x : Addr} {sc : Sc} (h : SceneAt prog w H x sc) : ∃ a ab b gd lk lb vb t, ScO prog w H x sc a ab b gd lk lb vb t := by
  obtain ⟨a, b, gd, lk, t, I, h1, h2, h3, h4, ⟨ab, lb, vb, Ib, e1, e2, e3⟩, hG, hL⟩ := h.ex
  exact ⟨a, ab, b, gd, lk, lb, vb, t, I, h1, h2, h3, h4, ⟨Ib, e1, e2, e3⟩, hG, hL⟩

theorem passes_spec {x : Addr} {sc : Sc} {k : Int} {t : Tok} (g : Gl (hd.heap_1 w.params) H) (le : Le H s.heap) (hA : Ok A 6) (hx : SceneAt prog w H x sc) (hlen : sc.ds.length ≤ 7) (h0 : 0 ≤ k) (h1 : k < sc.ds.length)
    (h : ∀ s', St [] H s H s' → Q (.bool (ignP sc.flag sc.f (gAt sc.ds k.toNat))) s') : wpAny (model prog w) A (call (.ref 97) [.ref x, .int k t]) Q E s := by
  refine' z_enter (ms := []) (binds := [("scene", .ref x), ("at", .int k t)]) g le (by simp) (by simp) ?k6 ?k7 hA.room ?kb ?kk ?kn ?_ ?c1 ?c2 ?c3
  tb_rel
  intro L s₁ F
  obtain ⟨a, ab, b, gd, lk, lb, vb, t0, ⟨I, hb, hg, hl, hm, ⟨Ib, hrow, hlb, hvb⟩, hG, hL⟩⟩ := SceneAt.open hx
  have hk : k.toNat < sc.ds.length := by omega
  obtain ⟨vi, hvi, hin⟩ := hvb.get (List.getElem?_eq_getElem hk)
  obtain ⟨y, ay, tt1, tt2, tt3, rfl, Iy, hg1, hg2, hg3⟩ := hin
  obtain ⟨ag, ak, am⟩ := at_info hk
  repeat ktr_rel
  rename Fz _ _ _ _ _ _ _ _ _ => F
  refine z_itemL (F.lst hlb) (x := .ref y) (by simpa using hvi) ?_ h0 (by rw [hvb.1]; omega)
  repeat ktr_rel
  rename Fz _ _ _ _ _ _ _ _ _ => F
  refine is_ignored_spec g F.le hA.deeper hG hL (hx.cls _) hx.flg fun s₂ st => ?_
  have F := F.next st
  rw [← ag]
  repeat ktr_rel
  exact h _ F.st

theorem is_borne_spec {x y : Addr} {sc : Sc} {ay : Str → Option Value} {mk : Int} {t : Tok} (g : Gl (hd.heap_1 w.params) H) (le : Le H s.heap) (hA : Ok A 2) (hx : SceneAt prog w H x sc) (Iy : InstOf H y 224 ay) (hm : ay "mask" = some (.int mk t))
    (h : ∀ s', St [] H s H s' → Q (.bool (Builtin.bitAnd mk sc.mask != 0)) s') : wpAny (model prog w) A (call (.ref 144) [.ref x, .ref y]) Q E s := by
  refine' z_enter (ms := []) (binds := [("scene", .ref x), ("info", .ref y)]) g le (by simp) (by simp) ?k6 ?k7 hA.room ?kb ?kk ?kn ?_ ?c1 ?c2 ?c3
  tb_rel
  intro L s₁ F
  obtain ⟨a, ab, b, gd, lk, lb, vb, t0, ⟨I, hb, hg, hl, hm', _, hG, hL⟩⟩ := SceneAt.open hx
  repeat ktr_rel
  rename Fz _ _ _ _ _ _ _ _ _ => F
  repeat ktr_rel
  exact h _ F.st

theorem found_spec {x : Addr} {sc : Sc} {a0 : Nat} {step : Int} {tv kv : Value} {pl : List Int} {ks : List Str} {inp : Bool} {t ts : Tok} (g : Gl (hd.heap_1 w.params) H) (le : Le H s.heap) (hA : Ok A 8) (hx : SceneAt prog w H x sc) (hds : ∀ d ∈ sc.ds, DOk d) (hlen : sc.ds.length ≤ 7)
    (hstep : step = 1 ∨ step = -1) (ha : a0 < sc.ds.length) (htest : TestAt prog w H tv pl) (hk : KT H kv ks)
    (h : ∀ t s', St [] H s H s' → Q (.int (optI (walkP (fun j => ignP sc.flag sc.f (gAt sc.ds j)) (fun j => decide (gAt sc.ds j ∈ pl) && (Builtin.bitAnd (mAt sc.ds j) sc.mask != 0 || !inp)) (badK sc.ds ks) (remL sc.ds.length step ((a0 : Int) + step)))) t) s') :
    wpAny (model prog w) A (call (.ref 151) [.ref x, .int (a0 : Int) t, .int step ts, tv, kv, .bool inp]) Q E s := by
  refine' z_enter (ms := []) (binds := [("scene", .ref x), ("at", .int (a0 : Int) t), ("step", .int step ts), ("test", tv), ("kinds", kv), ("is_input", .bool inp)]) g le (by simp) (by simp) ?k6 ?k7 hA.room ?kb ?kk ?kn ?_ ?c1 ?c2 ?c3
  tb_rel
  intro L s₁ F
  obtain ⟨a, ab, b, gd, lk, lb, vb, t0, ⟨I, hb, hg, hl, hm, hR, hG, hL⟩⟩ := SceneAt.open hx
  have Ib := hR.I
  have hrow := hR.row
  generalize hW : walkP (fun j => ignP sc.flag sc.f (gAt sc.ds j)) (fun j => decide (gAt sc.ds j ∈ pl) && (Builtin.bitAnd (mAt sc.ds j) sc.mask != 0 || !inp)) (badK sc.ds ks) (remL sc.ds.length step ((a0 : Int) + step)) = res at h
  repeat ktr_rel
  rename Fz _ _ _ _ _ _ _ _ _ => F
  refine z_while (fun n H' m' _ ms' => ∃ (here : Int) (t1 : Tok), H' = H ∧ ms' = [] ∧ m' "here" = some (.int here t1) ∧ m' "scene" = some (.ref x) ∧ m' "step" = some (.int step ts) ∧ m' "test" = some tv ∧ m' "kinds" = some kv ∧ m' "is_input" = some (.bool inp) ∧ OkHere sc.ds.length step here ∧
      n = (remL sc.ds.length step here).length ∧ walkP (fun j => ignP sc.flag sc.f (gAt sc.ds j)) (fun j => decide (gAt sc.ds j ∈ pl) && (Builtin.bitAnd (mAt sc.ds j) sc.mask != 0 || !inp)) (badK sc.ds ks) (remL sc.ds.length step here) = res) _ F
    ⟨_, _, rfl, rfl, rfl, rfl, rfl, rfl, rfl, rfl, OkHere.start hstep ha, rfl, hW⟩ ?_
  rintro n _ m' _ _ s₃ E' F ⟨here, t1, rfl, rfl, e1, e2, e3, e4, e5, e6, hok, rfl, hw⟩
  repeat ktr_rel
  have stop : ¬ (0 ≤ here ∧ here < sc.ds.length) → res = none := fun q => by
    rw [hok.stop q] at hw
    exact hw.symm
  refine z_if (fun hb1 => ?_) (fun hb1 => ?_)
  · have h0 : 0 ≤ here := of_decide_eq_true hb1
    repeat ktr_rel
    rename Fz _ _ _ _ _ _ _ _ _ => F
    refine z_len F (F.lst hR.lst) (by rw [List.size_toArray, hR.all.1, sizeLine_eq]; omega) ?_
    clear F
    intro t₁ s₂ F
    rw [List.size_toArray, hR.all.1]
    repeat ktr_rel
    refine z_if (fun hb2 => ?_) (fun hb2 => ?_)
    · have h1 : here < sc.ds.length := of_decide_eq_true hb2
      obtain ⟨hrem, hok'⟩ := hok.go h0 h1
      have hk' : here.toNat < sc.ds.length := by omega
      obtain ⟨vi, hvi, hin⟩ := hR.all.get (List.getElem?_eq_getElem hk')
      obtain ⟨y, ay, tt1, tt2, tt3, rfl, Iy, hg1, hg2, hg3⟩ := hin
      obtain ⟨ag, ak, am⟩ := at_info hk'
      rw [hrem, walk_cons] at hw
      have hlt : (remL sc.ds.length step (here + step)).length < (remL sc.ds.length step here).length := by rw [hrem]; simp
      repeat ktr_rel
      rename Fz _ _ _ _ _ _ _ _ _ => F
      refine passes_spec g F.le (hA.deeper.less (by omega)) hx hlen h0 h1 fun s₄ st => ?_
      replace F := F.next st
      repeat ktr_rel
      refine z_if (fun hc => ?_) (fun hc => ?_)
      · have hc' : ignP sc.flag sc.f (gAt sc.ds here.toNat) = false := by simpa using hc
        rw [hc', if_neg Bool.false_ne_true] at hw
        repeat ktr_rel
        rename Fz _ _ _ _ _ _ _ _ _ => F
        refine z_itemL (F.lst hR.lst) (x := .ref y) (by simpa using hvi) ?_ h0 (by rw [hR.all.1]; omega)
        repeat ktr_rel
        rename Fz _ _ _ _ _ _ _ _ _ => F
        refine fits_spec g F.le (hA.deeper.less (by omega)) htest fun s₅ st => ?_
        replace F := F.next st
        rw [← ag]
        have bad : ∀ {X : Bool}, X = false → (decide (gAt sc.ds here.toNat ∈ pl) && (Builtin.bitAnd (mAt sc.ds here.toNat) sc.mask != 0 || !inp)) = X → (if badK sc.ds ks here.toNat = true then none else walkP (fun j => ignP sc.flag sc.f (gAt sc.ds j)) (fun j => decide (gAt sc.ds j ∈ pl) && (Builtin.bitAnd (mAt sc.ds j) sc.mask != 0 || !inp)) (badK sc.ds ks) (remL sc.ds.length step (here + step))) = res := fun {X} e1 e2 => by
          rw [e1] at e2
          rw [e2, if_neg Bool.false_ne_true] at hw
          exact hw
        repeat ktr_rel
        refine z_if (fun hd => ?_) (fun hd => ?_)
        · repeat ktr_rel
          rename Fz _ _ _ _ _ _ _ _ _ => F
          refine is_borne_spec g F.le (hA.deeper.less (by omega)) hx Iy hg3 fun s₆ st => ?_
          replace F := F.next st
          rw [← am]
          repeat ktr_rel
          refine z_if (fun he => ?_) (fun he => ?_)
          · rw [hd, he, Bool.true_or, Bool.true_and, if_pos rfl] at hw
            repeat ktr_rel
            rename Fz _ _ _ _ _ _ _ _ _ => F
            have := h t1 _ F.st
            rw [← hw] at this
            rw [show optI (some here.toNat) = here from by show ((here.toNat : Nat) : Int) = here; omega] at this
            exact this
          · repeat ktr_rel
            refine z_if (fun hi => ?_) (fun hi => ?_)
            · rw [hd, Bool.eq_false_iff.mpr he, hi, Bool.false_or, Bool.true_and, if_pos rfl] at hw
              repeat ktr_rel
              rename Fz _ _ _ _ _ _ _ _ _ => F
              have := h t1 _ F.st
              rw [← hw] at this
              rw [show optI (some here.toNat) = here from by show ((here.toNat : Nat) : Int) = here; omega] at this
              exact this
            · have hw2 := bad rfl (show _ = false by rw [Bool.eq_false_iff.mpr he, Bool.eq_false_iff.mpr hi, Bool.false_or, Bool.and_false])
              repeat ktr_rel
              rename Fz _ _ _ _ _ _ _ _ _ => F
              refine z_notInK hA.deeper (hk.up F.le) (kindOk (hds _ (List.getElem_mem hk'))) ?_
              repeat ktr_rel
              rw [← ak]
              refine z_if (fun hf => ?_) (fun hf => ?_)
              · rw [show badK sc.ds ks here.toNat = true from hf, if_pos rfl] at hw2
                subst hw2
                repeat ktr_rel
                rename Fz _ _ _ _ _ _ _ _ _ => F
                repeat ktr_rel
                exact h _ _ F.st
              · rw [show badK sc.ds ks here.toNat = false from Bool.eq_false_iff.mpr hf, if_neg Bool.false_ne_true] at hw2
                repeat ktr_rel
                rename Fz _ _ _ _ _ _ _ _ _ => F
                repeat ktr_rel
                refine ⟨_, _, _, _, [], hlt, F, here + step, _, rfl, rfl, rfl, ?_, ?_, ?_, ?_, ?_, hok', rfl, hw2⟩ <;> assumption
        · have hw2 := bad rfl (show _ = false by rw [Bool.eq_false_iff.mpr hd, Bool.false_and])
          repeat ktr_rel
          rename Fz _ _ _ _ _ _ _ _ _ => F
          refine z_notInK hA.deeper (hk.up F.le) (kindOk (hds _ (List.getElem_mem hk'))) ?_
          repeat ktr_rel
          rw [← ak]
          refine z_if (fun hf => ?_) (fun hf => ?_)
          · rw [show badK sc.ds ks here.toNat = true from hf, if_pos rfl] at hw2
            subst hw2
            repeat ktr_rel
            rename Fz _ _ _ _ _ _ _ _ _ => F
            repeat ktr_rel
            exact h _ _ F.st
          · rw [show badK sc.ds ks here.toNat = false from Bool.eq_false_iff.mpr hf, if_neg Bool.false_ne_true] at hw2
            repeat ktr_rel
            rename Fz _ _ _ _ _ _ _ _ _ => F
            repeat ktr_rel
            refine ⟨_, _, _, _, [], hlt, F, here + step, _, rfl, rfl, rfl, ?_, ?_, ?_, ?_, ?_, hok', rfl, hw2⟩ <;> assumption
      · have hc' : ignP sc.flag sc.f (gAt sc.ds here.toNat) = true := by simpa using hc
        rw [hc', if_pos rfl] at hw
        repeat ktr_rel
        rename Fz _ _ _ _ _ _ _ _ _ => F
        repeat ktr_rel
        refine ⟨_, _, _, _, [], hlt, F, here + step, _, rfl, rfl, rfl, ?_, ?_, ?_, ?_, ?_, hok', rfl, hw⟩ <;> assumption
    · have hs := stop (fun q => hb2 (decide_eq_true q.2))
      subst hs
      repeat ktr_rel
      rename Fz _ _ _ _ _ _ _ _ _ => F
      repeat ktr_rel
      exact h _ _ F.st
  · have hs := stop (fun q => hb1 (decide_eq_true q.1))
    subst hs
    repeat ktr_rel
    rename Fz _ _ _ _ _ _ _ _ _ => F
    repeat ktr_rel
    exact h _ _ F.st
end fo

-- part FP
section fp
variable {prog : Program} {w : World} {A : Around} {E Q : Value → Shared → Prop} {s : Shared} {H : Heap}
def kAround : List Str := ["zwj", "zwnj", "hidden"]
def kInput : List Str := ["zwj", "hidden"]
theorem kt_around (g : Gl (hd.heap_1 w.params) H) : KT H (.ref 99) kAround := by
  have hh : ∃ t1 t2 t3, (hd.heap_1 w.params).lookup 99 = some (tupOf [.str "zwj" t1, .str "zwnj" t2, .str "hidden" t3]) := ⟨_, _, _, rfl⟩
  obtain ⟨t1, t2, t3, e⟩ := hh
  exact ⟨99, _, rfl, g.k _ _ e, .cons _ _ (.cons _ _ (.cons _ _ .nil)), by decide +kernel⟩
theorem kt_input (g : Gl (hd.heap_1 w.params) H) : KT H (.ref 98) kInput := by
  have hh : ∃ t1 t2, (hd.heap_1 w.params).lookup 98 = some (tupOf [.str "zwj" t1, .str "hidden" t2]) := ⟨_, _, rfl⟩
  obtain ⟨t1, t2, e⟩ := hh
  exact ⟨98, _, rfl, g.k _ _ e, .cons _ _ (.cons _ _ .nil), by decide +kernel⟩

theorem neighbour_spec {x : Addr} {sc : Sc} {a0 : Nat} {step : Int} {t ts : Tok} (g : Gl (hd.heap_1 w.params) H) (le : Le H s.heap) (hA : Ok A 8) (hx : SceneAt prog w H x sc) (hds : ∀ d ∈ sc.ds, DOk d) (hlen : sc.ds.length ≤ 7)
    (hstep : step = 1 ∨ step = -1) (ha : a0 < sc.ds.length)
    (h : ∀ t s', St [] H s H s' → Q (.int (optI (nearP (fun j => ignP sc.flag sc.f (gAt sc.ds j)) (badK sc.ds kAround) (remL sc.ds.length step ((a0 : Int) + step)))) t) s') :
    wpAny (model prog w) A (call (.ref 123) [.ref x, .int (a0 : Int) t, .int step ts]) Q E s := by
  refine' z_enter (ms := []) (binds := [("scene", .ref x), ("at", .int (a0 : Int) t), ("step", .int step ts)]) g le (by simp) (by simp) ?k6 ?k7 hA.room ?kb ?kk ?kn ?_ ?c1 ?c2 ?c3
  tb_rel
  intro L s₁ F
  obtain ⟨a, ab, b, gd, lk, lb, vb, t0, ⟨I, hb, hg, hl, hm, hR, hG, hL⟩⟩ := SceneAt.open hx
  have Ib := hR.I
  have hrow := hR.row
  generalize hW : nearP (fun j => ignP sc.flag sc.f (gAt sc.ds j)) (badK sc.ds kAround) (remL sc.ds.length step ((a0 : Int) + step)) = res at h
  repeat ktr_rel
  rename Fz _ _ _ _ _ _ _ _ _ => F
  refine z_while (fun n H' m' _ ms' => ∃ (here : Int) (t1 : Tok), H' = H ∧ ms' = [] ∧ m' "here" = some (.int here t1) ∧ m' "scene" = some (.ref x) ∧ m' "step" = some (.int step ts) ∧ OkHere sc.ds.length step here ∧
      n = (remL sc.ds.length step here).length ∧ nearP (fun j => ignP sc.flag sc.f (gAt sc.ds j)) (badK sc.ds kAround) (remL sc.ds.length step here) = res) _ F
    ⟨_, _, rfl, rfl, rfl, rfl, rfl, OkHere.start hstep ha, rfl, hW⟩ ?_
  rintro n _ m' _ _ s₃ E' F ⟨here, t1, rfl, rfl, e1, e2, e3, hok, rfl, hw⟩
  have stop : ¬ (0 ≤ here ∧ here < sc.ds.length) → res = none := fun q => by
    rw [hok.stop q] at hw
    exact hw.symm
  repeat ktr_rel
  refine z_if (fun hb1 => ?_) (fun hb1 => ?_)
  · have h0 : 0 ≤ here := of_decide_eq_true hb1
    repeat ktr_rel
    rename Fz _ _ _ _ _ _ _ _ _ => F
    refine z_len F (F.lst hR.lst) (by rw [List.size_toArray, hR.all.1, sizeLine_eq]; omega) ?_
    clear F
    intro t₁ s₂ F
    rw [List.size_toArray, hR.all.1]
    repeat ktr_rel
    refine z_if (fun hb2 => ?_) (fun hb2 => ?_)
    · have h1 : here < sc.ds.length := of_decide_eq_true hb2
      obtain ⟨hrem, hok'⟩ := hok.go h0 h1
      have hk' : here.toNat < sc.ds.length := by omega
      obtain ⟨vi, hvi, hin⟩ := hR.all.get (List.getElem?_eq_getElem hk')
      obtain ⟨y, ay, tt1, tt2, tt3, rfl, Iy, hg1, hg2, hg3⟩ := hin
      obtain ⟨ag, ak, am⟩ := at_info hk'
      have hlt : (remL sc.ds.length step (here + step)).length < (remL sc.ds.length step here).length := by rw [hrem]; simp
      rw [hrem, near_cons] at hw
      repeat ktr_rel
      rename Fz _ _ _ _ _ _ _ _ _ => F
      refine passes_spec g F.le (hA.deeper.less (by omega)) hx hlen h0 h1 fun s₄ st => ?_
      replace F := F.next st
      repeat ktr_rel
      refine z_if (fun hc => ?_) (fun hc => ?_)
      · repeat ktr_rel
        rename Fz _ _ _ _ _ _ _ _ _ => F
        refine z_itemL (F.lst hR.lst) (x := .ref y) (by simpa using hvi) ?_ h0 (by rw [hR.all.1]; omega)
        repeat ktr_rel
        rename Fz _ _ _ _ _ _ _ _ _ => F
        refine z_notInK hA.deeper ((kt_around g).up F.le) (kindOk (hds _ (List.getElem_mem hk'))) ?_
        repeat ktr_rel
        rw [← ak]
        refine z_if (fun hf => ?_) (fun hf => ?_)
        · rw [if_pos (by rw [hc]; exact hf)] at hw
          repeat ktr_rel
          rename Fz _ _ _ _ _ _ _ _ _ => F
          have := h t1 _ F.st
          rw [← hw] at this
          rw [show optI (some here.toNat) = here from by show ((here.toNat : Nat) : Int) = here; omega] at this
          exact this
        · rw [if_neg (by rw [hc]; exact hf)] at hw
          repeat ktr_rel
          rename Fz _ _ _ _ _ _ _ _ _ => F
          repeat ktr_rel
          refine ⟨_, _, _, _, [], hlt, F, here + step, _, rfl, rfl, rfl, ?_, ?_, hok', rfl, hw⟩ <;> assumption
      · rw [if_neg (by rw [Bool.eq_false_iff.mpr hc]; exact Bool.false_ne_true)] at hw
        repeat ktr_rel
        rename Fz _ _ _ _ _ _ _ _ _ => F
        repeat ktr_rel
        refine ⟨_, _, _, _, [], hlt, F, here + step, _, rfl, rfl, rfl, ?_, ?_, hok', rfl, hw⟩ <;> assumption
    · have hs := stop (fun q => hb2 (decide_eq_true q.2))
      subst hs
      repeat ktr_rel
      rename Fz _ _ _ _ _ _ _ _ _ => F
      repeat ktr_rel
      exact h _ _ F.st
  · have hs := stop (fun q => hb1 (decide_eq_true q.1))
    subst hs
    repeat ktr_rel
    rename Fz _ _ _ _ _ _ _ _ _ => F
    repeat ktr_rel
    exact h _ _ F.st

theorem next_spec {x : Addr} {sc : Sc} {a0 : Nat} {t : Tok} (g : Gl (hd.heap_1 w.params) H) (le : Le H s.heap) (hA : Ok A 9) (hx : SceneAt prog w H x sc) (hds : ∀ d ∈ sc.ds, DOk d) (hlen : sc.ds.length ≤ 7) (ha : a0 < sc.ds.length)
    (h : ∀ t s', St [] H s H s' → Q (.int (optI (nearP (fun j => ignP sc.flag sc.f (gAt sc.ds j)) (badK sc.ds kAround) (remL sc.ds.length 1 ((a0 : Int) + 1)))) t) s') :
    wpAny (model prog w) A (call (.ref 130) [.ref x, .int (a0 : Int) t]) Q E s := by
  refine' z_enter (ms := []) (binds := [("scene", .ref x), ("at", .int (a0 : Int) t)]) g le (by simp) (by simp) ?k6 ?k7 hA.room ?kb ?kk ?kn ?_ ?c1 ?c2 ?c3
  tb_rel
  intro L s₁ F
  repeat ktr_rel
  rename Fz _ _ _ _ _ _ _ _ _ => F
  refine neighbour_spec g F.le hA.deeper hx hds hlen (.inl rfl) ha fun t₂ s₂ st => ?_
  replace F := F.next st
  repeat ktr_rel
  exact h _ _ F.st
theorem before_spec {x : Addr} {sc : Sc} {a0 : Nat} {t : Tok} (g : Gl (hd.heap_1 w.params) H) (le : Le H s.heap) (hA : Ok A 9) (hx : SceneAt prog w H x sc) (hds : ∀ d ∈ sc.ds, DOk d) (hlen : sc.ds.length ≤ 7) (ha : a0 < sc.ds.length)
    (h : ∀ t s', St [] H s H s' → Q (.int (optI (nearP (fun j => ignP sc.flag sc.f (gAt sc.ds j)) (badK sc.ds kAround) (remL sc.ds.length (-1) ((a0 : Int) + -1)))) t) s') :
    wpAny (model prog w) A (call (.ref 137) [.ref x, .int (a0 : Int) t]) Q E s := by
  refine' z_enter (ms := []) (binds := [("scene", .ref x), ("at", .int (a0 : Int) t)]) g le (by simp) (by simp) ?k6 ?k7 hA.room ?kb ?kk ?kn ?_ ?c1 ?c2 ?c3
  tb_rel
  intro L s₁ F
  repeat ktr_rel
  rename Fz _ _ _ _ _ _ _ _ _ => F
  refine neighbour_spec g F.le hA.deeper hx hds hlen (.inr rfl) ha fun t₂ s₂ st => ?_
  replace F := F.next st
  repeat ktr_rel
  exact h _ _ F.st
end fp

-- part FQ
def chainP (nxt : List Int → Nat → Option Nat) : List (List Int) → Nat → Option (List Nat)
  | [], _ => some []
  | pl :: r, c => match nxt pl c with | none => none | some j => (chainP nxt r j).map (j :: ·)
def lastP (nxt : List Int → Nat → Option Nat) : List (List Int) → Nat → Option Nat
  | [], c => some c
  | pl :: r, c => match nxt pl c with | none => none | some j => lastP nxt r j
def nxtP (sc : Sc) (step : Int) (ks : List Str) (inp : Bool) (pl : List Int) (c : Nat) : Option Nat :=
  walkP (fun j => ignP sc.flag sc.f (gAt sc.ds j)) (fun j => decide (gAt sc.ds j ∈ pl) && (Builtin.bitAnd (mAt sc.ds j) sc.mask != 0 || !inp)) (badK sc.ds ks) (remL sc.ds.length step ((c : Int) + step))
theorem remL_mem {n : Nat} {step here : Int} (hs : step = 1 ∨ step = -1) (hh : here ≤ n) {j : Nat} (h : j ∈ remL n step here) (h1 : step = -1 → here < n) : j < n := by
  unfold remL at h
  rcases hs with rfl | rfl
  · rw [if_pos rfl] at h
    exact List.mem_range.mp (List.mem_of_mem_drop h)
  · rw [if_neg (by decide)] at h
    have := List.mem_range.mp (List.mem_reverse.mp h)
    have := h1 rfl
    omega
theorem nxt_lt {sc : Sc} {step : Int} {ks : List Str} {inp : Bool} {pl : List Int} {c j : Nat} (hs : step = 1 ∨ step = -1) (hc : c < sc.ds.length) (h : nxtP sc step ks inp pl c = some j) : j < sc.ds.length := by
  refine remL_mem hs ?_ (walk_mem h) ?_
  · rcases hs with rfl | rfl <;> omega
  · rintro rfl; omega
section fq
variable {prog : Program} {w : World} {A : Around} {E Q : Value → Shared → Prop} {s : Shared} {H : Heap}

theorem z_itemN1 {value slice : Expr} {l : Addr} {items : List Value} {u : Tok} {x : Value} {Q : Value → Shared → Prop} (hl : s.heap.IsList l items.toArray) (hx : items.getLast? = some x) (hsz : items.length ≤ 1000) (h : Q x s)
    (hs : subscripted slice false (.ref l) (.int (-1) u) = operate [.ref l, .int (-1) u] (getItem (.ref l) (.int (-1) u)) := by with_unfolding_all rfl) :
    wpAny (model prog w) A (subscriptTail value slice (.ref l) (.int (-1) u)) Q E s := by
  have hne : items ≠ [] := by rintro rfl; simp at hx
  have hlen : 0 < items.length := List.length_pos_iff.mpr hne
  refine tail_any hl.typeIs slot_list_getitem.lookup (wpAny_getItem_list_neg hl (by decide) (by rw [List.size_toArray]; omega) (by decide) ?_ h) hs
  rw [List.getLast?_eq_getElem?] at hx
  rw [show ((-1 : Int) + (items.toArray.size : Int)).toNat = items.length - 1 by rw [List.size_toArray]; omega]
  simpa using hx

theorem found2_spec {x : Addr} {sc : Sc} {a0 : Nat} {step : Int} {tv kv : Value} {pl : List Int} {ks : List Str} {inp : Bool} {t ts : Tok} (g : Gl (hd.heap_1 w.params) H) (le : Le H s.heap) (hA : Ok A 8) (hx : SceneAt prog w H x sc) (hds : ∀ d ∈ sc.ds, DOk d) (hlen : sc.ds.length ≤ 7)
    (hstep : step = 1 ∨ step = -1) (ha : a0 < sc.ds.length) (htest : TestAt prog w H tv pl) (hk : KT H kv ks)
    (h : ∀ t s', St [] H s H s' → Q (.int (optI (nxtP sc step ks inp pl a0)) t) s') :
    wpAny (model prog w) A (call (.ref 151) [.ref x, .int (a0 : Int) t, .int step ts, tv, kv, .bool inp]) Q E s := found_spec g le hA hx hds hlen hstep ha htest hk h

theorem last_spec {x : Addr} {sc : Sc} {a0 : Nat} {step : Int} {tv : Value} {nss : List (List Int)} {t ts : Tok} (g : Gl (hd.heap_1 w.params) H) (le : Le H s.heap) (hA : Ok A 9) (hx : SceneAt prog w H x sc) (hds : ∀ d ∈ sc.ds, DOk d) (hlen : sc.ds.length ≤ 7)
    (hstep : step = 1 ∨ step = -1) (ha : a0 < sc.ds.length) (htest : Ls (TestAt prog w) H tv nss)
    (h : ∀ t s', St [] H s H s' → Q (.int (optI (lastP (nxtP sc step kAround false) nss a0)) t) s') :
    wpAny (model prog w) A (call (.ref 165) [.ref x, .int (a0 : Int) t, .int step ts, tv]) Q E s := by
  refine' z_enter (ms := []) (binds := [("scene", .ref x), ("at", .int (a0 : Int) t), ("step", .int step ts), ("tests", tv)]) g le (by simp) (by simp) ?k6 ?k7 hA.room ?kb ?kk ?kn ?_ ?c1 ?c2 ?c3
  tb_rel
  intro L s₁ F
  obtain ⟨lt, vs, rfl, hlt, hvs⟩ := htest
  generalize hW : lastP (nxtP sc step kAround false) nss a0 = res at h
  repeat ktr_rel
  rename Fz _ _ _ _ _ _ _ _ _ => F
  refine for_list hA.hh F (items := vs.toArray) hlt.isList (by rfl)
    (fun k H' m' cm' ms' => ∃ (cur : Nat) (t1 : Tok), H' = H ∧ ms' = [] ∧ m' "here" = some (.int (cur : Int) t1) ∧ m' "scene" = some (.ref x) ∧ m' "step" = some (.int step ts) ∧ cur < sc.ds.length ∧ lastP (nxtP sc step kAround false) (nss.drop k) cur = res)
    ⟨a0, _, rfl, rfl, rfl, rfl, rfl, ha, hW⟩ ?_ ?_
  · rintro k v I io _ m' cm' _ s₃ E' hk hv ⟨cur, t1, rfl, rfl, e1, e2, e3, hc, hw⟩ F
    have F : Fz _ _ _ _ _ _ _ [(I, io)] _ := F
    have hkn : k < nss.length := by rw [← hvs.1]; simpa using hk
    have hT := hvs.2 k v _ (by simpa using hv) (List.getElem?_eq_getElem hkn)
    rw [List.drop_eq_getElem_cons hkn] at hw
    unfold lastP at hw
    repeat ktr_rel
    rename Fz _ _ _ _ _ _ _ _ _ => F
    refine found2_spec g F.le hA.deeper hx hds hlen hstep hc hT (kt_around g) fun t₂ s₄ st => ?_
    replace F := F.next st
    cases hn : nxtP sc step kAround false nss[k] cur with
    | none =>
      rw [hn] at hw
      have hw : none = res := hw
      subst hw
      unfold optI
      repeat ktr_rel
      rename Fz _ _ _ _ _ _ _ _ _ => F
      repeat ktr_rel
      exact h _ _ F.st
    | some j =>
      rw [hn] at hw
      have hw : lastP (nxtP sc step kAround false) (nss.drop (k + 1)) j = res := hw
      unfold optI
      repeat ktr_rel
      refine (if_neg (by simp)).mpr ?_
      repeat ktr_rel
      rename Fz _ _ _ _ _ _ _ _ _ => F
      repeat ktr_rel
      refine ⟨_, _, _, [], F, .refl, j, _, rfl, rfl, rfl, ?_, ?_, nxt_lt hstep hc hn, hw⟩ <;> assumption
  · rintro _ m' cm' _ s₃ ⟨cur, t1, rfl, rfl, e1, e2, e3, hc, hw⟩ F
    rw [List.size_toArray, hvs.1, List.drop_length] at hw
    repeat ktr_rel
    rename Fz _ _ _ _ _ _ _ _ _ => F
    have := h t1 _ F.st
    rw [← hw] at this
    exact this

theorem ahead_spec {x : Addr} {sc : Sc} {a0 : Nat} {tv : Value} {nss : List (List Int)} {t : Tok} (g : Gl (hd.heap_1 w.params) H) (le : Le H s.heap) (hA : Ok A 10) (hx : SceneAt prog w H x sc) (hds : ∀ d ∈ sc.ds, DOk d) (hlen : sc.ds.length ≤ 7)
    (ha : a0 < sc.ds.length) (htest : Ls (TestAt prog w) H tv nss) (h : ∀ t s', St [] H s H s' → Q (.int (optI (lastP (nxtP sc 1 kAround false) nss a0)) t) s') :
    wpAny (model prog w) A (call (.ref 172) [.ref x, .int (a0 : Int) t, tv]) Q E s := by
  refine' z_enter (ms := []) (binds := [("scene", .ref x), ("at", .int (a0 : Int) t), ("tests", tv)]) g le (by simp) (by simp) ?k6 ?k7 hA.room ?kb ?kk ?kn ?_ ?c1 ?c2 ?c3
  tb_rel
  intro L s₁ F
  repeat ktr_rel
  rename Fz _ _ _ _ _ _ _ _ _ => F
  refine last_spec g F.le hA.deeper hx hds hlen (.inl rfl) ha htest fun t₂ s₂ st => ?_
  replace F := F.next st
  repeat ktr_rel
  exact h _ _ F.st
theorem back_spec {x : Addr} {sc : Sc} {a0 : Nat} {tv : Value} {nss : List (List Int)} {t : Tok} (g : Gl (hd.heap_1 w.params) H) (le : Le H s.heap) (hA : Ok A 10) (hx : SceneAt prog w H x sc) (hds : ∀ d ∈ sc.ds, DOk d) (hlen : sc.ds.length ≤ 7)
    (ha : a0 < sc.ds.length) (htest : Ls (TestAt prog w) H tv nss) (h : ∀ t s', St [] H s H s' → Q (.int (optI (lastP (nxtP sc (-1) kAround false) nss a0)) t) s') :
    wpAny (model prog w) A (call (.ref 179) [.ref x, .int (a0 : Int) t, tv]) Q E s := by
  refine' z_enter (ms := []) (binds := [("scene", .ref x), ("at", .int (a0 : Int) t), ("tests", tv)]) g le (by simp) (by simp) ?k6 ?k7 hA.room ?kb ?kk ?kn ?_ ?c1 ?c2 ?c3
  tb_rel
  intro L s₁ F
  repeat ktr_rel
  rename Fz _ _ _ _ _ _ _ _ _ => F
  refine last_spec g F.le hA.deeper hx hds hlen (.inr rfl) ha htest fun t₂ s₂ st => ?_
  replace F := F.next st
  repeat ktr_rel
  exact h _ _ F.st
theorem last0_spec {x : Value} {a0 : Int} {T : Addr} {t : Tok} {step : Int} {ts : Tok} (g : Gl (hd.heap_1 w.params) H) (le : Le H s.heap) (hA : Ok A 9) (hT : TA H T [])
    (h : ∀ t s', St [] H s H s' → Q (.int a0 t) s') : wpAny (model prog w) A (call (.ref 165) [x, .int a0 t, .int step ts, .ref T]) Q E s := by
  refine' z_enter (ms := []) (binds := [("scene", x), ("at", .int a0 t), ("step", .int step ts), ("tests", .ref T)]) g le (by simp) (by simp) ?k6 ?k7 hA.room ?kb ?kk ?kn ?_ ?c1 ?c2 ?c3
  tb_rel
  intro L s₁ F
  repeat ktr_rel
  rename Fz _ _ _ _ _ _ _ _ _ => F
  refine for_tuple hA.hh F (items := #[]) hT.isTup (by rfl) (fun k H' m' cm' ms' => H' = H ∧ ms' = [] ∧ ∃ t1, m' "here" = some (.int a0 t1)) ⟨rfl, rfl, _, rfl⟩ ?_ ?_
  · rintro k v I io _ m' cm' _ s₃ E' hk
    exact absurd hk (Nat.not_lt_zero k)
  · rintro _ m' cm' _ s₃ ⟨rfl, rfl, t1, e1⟩ F
    repeat ktr_rel
    rename Fz _ _ _ _ _ _ _ _ _ => F
    repeat ktr_rel
    exact h t1 _ F.st
theorem back0_spec {x : Value} {a0 : Int} {T : Addr} {t : Tok} (g : Gl (hd.heap_1 w.params) H) (le : Le H s.heap) (hA : Ok A 10) (hT : TA H T [])
    (h : ∀ t s', St [] H s H s' → Q (.int a0 t) s') : wpAny (model prog w) A (call (.ref 179) [x, .int a0 t, .ref T]) Q E s := by
  refine' z_enter (ms := []) (binds := [("scene", x), ("at", .int a0 t), ("tests", .ref T)]) g le (by simp) (by simp) ?k6 ?k7 hA.room ?kb ?kk ?kn ?_ ?c1 ?c2 ?c3
  tb_rel
  intro L s₁ F
  repeat ktr_rel
  rename Fz _ _ _ _ _ _ _ _ _ => F
  refine last0_spec g F.le hA.deeper hT fun t₂ s₂ st => ?_
  replace F := F.next st
  repeat ktr_rel
  exact h _ _ F.st

def OptL (H : Heap) (v : Value) : Option (List Nat) → Prop
  | none => v = .none
  | some l => IL H v (toI l)
theorem input_spec {x : Addr} {sc : Sc} {a0 : Nat} {tv : Value} {pl : List Int} {nss : List (List Int)} {t : Tok} (g : Gl (hd.heap_1 w.params) H) (le : Le H s.heap) (hA : Ok A 9) (hx : SceneAt prog w H x sc) (hds : ∀ d ∈ sc.ds, DOk d) (hlen : sc.ds.length ≤ 7)
    (ha : a0 < sc.ds.length) (htest : Ls (TestAt prog w) H tv (pl :: nss)) (hn3 : nss.length ≤ 10)
    (h : ∀ v H' s', St [] H s H' s' → OptL H' v (if gAt sc.ds a0 ∈ pl then (chainP (nxtP sc 1 kInput true) nss a0).map (a0 :: ·) else none) → Q v s') :
    wpAny (model prog w) A (call (.ref 158) [.ref x, .int (a0 : Int) t, tv]) Q E s := by
  refine' z_enter (ms := []) (binds := [("scene", .ref x), ("at", .int (a0 : Int) t), ("tests", tv)]) g le (by simp) (by simp) ?k6 ?k7 hA.room ?kb ?kk ?kn ?_ ?c1 ?c2 ?c3
  tb_rel
  intro L s₁ F
  obtain ⟨lt, vs, rfl, hlt, hvs⟩ := htest
  obtain ⟨v0, vr, rfl, hv0, hvr⟩ := hvs.cons_inv
  obtain ⟨a, ab, b, gd, lk, lb, vb, t0, ⟨I, hb, hg, hl, hm, hR, hG, hL⟩⟩ := SceneAt.open hx
  have Ib := hR.I
  have hrow := hR.row
  obtain ⟨vi, hvi, hin⟩ := hR.all.get (List.getElem?_eq_getElem ha)
  obtain ⟨y, ay, tt1, tt2, tt3, rfl, Iy, hg1, hg2, hg3⟩ := hin
  obtain ⟨ag, ak, am⟩ := at_info ha
  have hvl : vr.length + 1 ≤ 1000 := by rw [hvr.1]; omega
  repeat ktr_rel
  rename Fz _ _ _ _ _ _ _ _ _ => F
  refine z_itemL (F.lst hlt.isList) (x := v0) rfl ?_ (by decide) hvl
  repeat ktr_rel
  rename Fz _ _ _ _ _ _ _ _ _ => F
  refine z_itemL (F.lst hR.lst) (x := .ref y) (by simpa using hvi) ?_ (by omega) (by rw [hR.all.1]; omega)
  repeat ktr_rel
  rename Fz _ _ _ _ _ _ _ _ _ => F
  refine fits_spec g F.le (hA.deeper.less (by omega)) hv0 fun s₂ st => ?_
  replace F := F.next st
  rw [← ag]
  repeat ktr_rel
  refine z_if (fun hb1 => ?_) (fun hb1 => ?_)
  · have hno : ¬ gAt sc.ds a0 ∈ pl := by simpa using hb1
    rw [if_neg hno] at h
    repeat ktr_rel
    rename Fz _ _ _ _ _ _ _ _ _ => F
    repeat ktr_rel
    exact h _ H _ F.st rfl
  · have hyes : gAt sc.ds a0 ∈ pl := by simpa using hb1
    rw [if_pos hyes] at h
    generalize hW : (chainP (nxtP sc 1 kInput true) nss a0).map (a0 :: ·) = res at h
    repeat ktr_rel
    rename Fz _ _ _ _ _ _ _ _ _ => F
    refine z_mk F ?_
    clear F
    intro R s₃ hR₀ F
    repeat ktr_rel
    rename Fz _ _ _ _ _ _ _ _ _ => F
    refine z_mk F ?_
    clear F
    intro sl s₄ hsl F
    repeat ktr_rel
    rename Fz _ _ _ _ _ _ _ _ _ => F
    refine z_slice (items := v0 :: vr) (F.lst hlt.isList) F.m0 (.int _ _) .none .none (by decide) hvl ?_
    rw [pick_tail]
    replace F := F.forget (pre := [])
    refine z_mkF F ?_
    clear F
    intro l2 s₅ H₁ le₁ hl2 F
    have g₁ := g.up le₁
    clear g
    have hvr1 := hvr.mono fun _ _ => TestAt.up le₁
    have hx1 : SceneAt prog w H₁ x sc := by
      refine ⟨⟨a, b, gd, lk, t0, I.up le₁, hb, hg, hl, hm, ⟨ab, lb, vb, hR.I.up le₁, hR.row, lst_up le₁ hR.lst, hR.all.mono fun _ _ => InfoAt.up le₁⟩, ?_, ?_⟩, hx.cls, hx.flg⟩
      · obtain ⟨a, c, I, e1, e2, hc⟩ := hG
        exact ⟨a, c, I.up le₁, e1, e2, ClsAt.up le₁ hc⟩
      · obtain ⟨a, t, I, e⟩ := hL
        exact ⟨a, t, I.up le₁, e⟩
    refine for_list hA.hh F (items := vr.toArray) (l := l2) ⟨_, hl2, rfl, _, rfl⟩ (by rfl)
      (fun k H' m' cm' ms' => ∃ (acc : List Nat) (cur : Nat) (us : List Value) (n : Nat), H' = H₁ ∧ ms' = [(R, listOf (List.toArray us) n)] ∧ m' "found" = some (.ref R) ∧ m' "scene" = some (.ref x) ∧ IntsAre us (toI acc) ∧ acc.getLast? = some cur ∧ acc.length = k + 1 ∧ cur < sc.ds.length ∧
        (match chainP (nxtP sc 1 kInput true) (nss.drop k) cur with | none => none | some l => some (acc ++ l)) = res)
      ⟨[a0], a0, _, _, rfl, rfl, rfl, rfl, .cons _ _ .nil, rfl, rfl, ha, by rw [← hW]; show (match chainP (nxtP sc 1 kInput true) nss a0 with | none => none | some l => some ([a0] ++ l)) = _; cases chainP (nxtP sc 1 kInput true) nss a0 <;> rfl⟩ ?_ ?_
    · rintro k v J jo _ m' cm' _ s₆ E' hk hv ⟨acc, cur, us, n, rfl, rfl, e1, e2, hus, hlast, hal, hc, hw⟩ F
      have F : Fz _ _ _ _ _ _ _ [(R, listOf (List.toArray us) n), (J, jo)] _ := F
      have hkn : k < nss.length := by rw [← hvr.1]; simpa using hk
      have hT := hvr1.2 k v _ (by simpa using hv) (List.getElem?_eq_getElem hkn)
      have hul : us.length = acc.length := by rw [hus.length]; unfold toI; rw [List.length_map]
      rw [List.drop_eq_getElem_cons hkn] at hw
      unfold chainP at hw
      repeat ktr_rel
      rename Fz _ _ _ _ _ _ _ _ _ => F
      have hlu : ∃ tl, us.getLast? = some (.int (cur : Int) tl) := by
        rw [List.getLast?_eq_getElem?] at hlast ⊢
        obtain ⟨tl, e⟩ := hus.get (acc.length - 1) (cur : Int) (by unfold toI; rw [List.getElem?_map, hlast]; rfl)
        exact ⟨tl, by rw [hul]; exact e⟩
      obtain ⟨tl, hlu⟩ := hlu
      refine z_itemN1 ⟨_, F.m0, rfl, _, rfl⟩ hlu (by rw [hul]; omega) ?_
      repeat ktr_rel
      rename Fz _ _ _ _ _ _ _ _ _ => F
      refine found2_spec g₁ F.le hA.deeper hx1 hds hlen (.inl rfl) hc hT (kt_input g₁) fun t₂ s₇ st => ?_
      replace F := F.next st
      cases hn : nxtP sc 1 kInput true nss[k] cur with
      | none =>
        rw [hn] at hw
        have hw : none = res := hw
        subst hw
        unfold optI
        repeat ktr_rel
        rename Fz _ _ _ _ _ _ _ _ _ => F
        repeat ktr_rel
        exact h _ _ _ F.st rfl
      | some j =>
        rw [hn] at hw
        unfold optI
        repeat ktr_rel
        refine (if_neg (by simp)).mpr ?_
        repeat ktr_rel
        rename Fz _ _ _ _ _ _ _ _ _ => F
        refine z_lappend F.m0 ?_
        repeat ktr_rel
        rename Fz _ _ _ _ _ _ _ _ _ => F
        refine z_append (pre := []) F (by rw [hul]; omega) ?_
        clear F
        intro n' s₈ F
        repeat ktr_rel
        rename Fz _ _ _ _ _ _ _ _ _ => F
        repeat ktr_rel
        refine ⟨_, _, _, [(R, _)], F, .refl, acc ++ [j], j, _, _, rfl, rfl, ?_, ?_, ?_, by simp, by simp [hal], nxt_lt (.inl rfl) hc hn, ?_⟩
        · assumption
        · assumption
        · rw [toI_snoc]; exact IntsAre.snoc hus _ _
        · rw [← hw]
          show _ = (match ((chainP (nxtP sc 1 kInput true) (nss.drop (k + 1)) j).map (j :: ·)) with | none => none | some l => some (acc ++ l))
          cases chainP (nxtP sc 1 kInput true) (nss.drop (k + 1)) j with
          | none => rfl
          | some l => simp
    · rintro _ m' cm' _ s₆ ⟨acc, cur, us, n, rfl, rfl, e1, e2, hus, hlast, hal, hc, hw⟩ F
      rw [List.size_toArray, hvr.1, List.drop_length] at hw
      have hw : some (acc ++ []) = res := hw
      rw [List.append_nil] at hw
      repeat ktr_rel
      rename Fz _ _ _ _ _ _ _ _ _ => F
      obtain ⟨H₂, le₂, hR₂, G⟩ := F.freeze hR₀
      repeat ktr_rel
      refine h _ H₂ _ G.st ?_
      rw [← hw]
      exact ⟨R, us, rfl, ⟨_, hR₂⟩, hus⟩
end fq

-- part HT
def PieceAt (H : Heap) (v : Value) (p : Int × Int) : Prop := ∃ x a t1 t2, v = .ref x ∧ InstOf H x 224 a ∧ a "lig_id" = some (.int p.1 t1) ∧ a "lig_part" = some (.int p.2 t2)
theorem PieceAt.up {H H' : Heap} {v : Value} {p : Int × Int} (k : Le H H') : PieceAt H v p → PieceAt H' v p := fun ⟨x, a, t1, t2, e, I, r⟩ => ⟨x, a, t1, t2, e, I.up k, r⟩
def isP (p : Int × Int) : Bool := p.1 != 0 && p.2 != 0
def holdStep (f o : Int × Int) : Bool := if isP f then (o.1 == f.1 && o.2 == f.2) else !(isP o && o.1 != f.1)
def pAt (ps : List (Int × Int)) (j : Nat) : Int × Int := ps.getD j (0, 0)
section ht
variable {prog : Program} {w : World} {A : Around} {E Q : Value → Shared → Prop} {s : Shared} {H : Heap}
theorem z_neT2 {T U : Addr} {a b c d : Int} {t1 t2 t3 t4 : Tok} {n : Nat} (hA : Ok A n) (h1 : TA s.heap T [.int a t1, .int b t2]) (h2 : TA s.heap U [.int c t3, .int d t4]) (h : Q (.bool (!(a == c && b == d))) s) :
    wpAny (model prog w) A (compareOp .NotEq (.ref T) (.ref U)) Q E s := by
  refine ne_dataH (.tuple h1 rfl rfl (.cons (.int a t1) (.cons (.int b t2) .nil))) (.tuple h2 rfl rfl (.cons (.int c t3) (.cons (.int d t4) .nil))) rfl rfl hA.room64 ?_
  rw [show PyData.eqv (.tuple [.int a, .int b]) (.tuple [.int c, .int d]) = (a == c && b == d) by simp [PyData.eqv, PyData.eqvAll]]
  exact h

theorem is_piece_spec {v : Value} {p : Int × Int} (g : Gl (hd.heap_1 w.params) H) (le : Le H s.heap) (hA : Ok A 2) (hp : PieceAt H v p)
    (h : ∀ s', St [] H s H s' → Q (.bool (isP p)) s') : wpAny (model prog w) A (call (.ref 186) [v]) Q E s := by
  refine' z_enter (ms := []) (binds := [("info", v)]) g le (by simp) (by simp) ?k6 ?k7 hA.room ?kb ?kk ?kn ?_ ?c1 ?c2 ?c3
  tb_rel
  intro L s₁ F
  obtain ⟨x, a, t1, t2, rfl, I, e1, e2⟩ := hp
  repeat ktr_rel
  refine z_if (fun hb => ?_) (fun hb => ?_)
  · repeat ktr_rel
    rename Fz _ _ _ _ _ _ _ _ _ => F
    repeat ktr_rel
    have := h _ F.st
    unfold isP at this
    rw [hb, Bool.true_and] at this
    exact this
  · rename Fz _ _ _ _ _ _ _ _ _ => F
    repeat ktr_rel
    have := h _ F.st
    unfold isP at this
    rw [Bool.eq_false_iff.mpr hb, Bool.false_and] at this
    rw [Bool.eq_false_iff.mpr hb]
    exact this

theorem hold_spec {lr lp : Addr} {vs us : List Value} {ps : List (Int × Int)} {s0 : Nat} {rest : List Nat} (g : Gl (hd.heap_1 w.params) H) (le : Le H s.heap) (hA : Ok A 4) (hlr : LA H lr vs) (hvs : All2 (PieceAt H) vs ps) (hlp : LA H lp us) (hus : IntsAre us (toI (s0 :: rest)))
    (hps : ∀ j ∈ s0 :: rest, j < ps.length) (hl : ps.length ≤ 5) (hr : rest.length ≤ 5)
    (h : ∀ s', (∃ H', St [] H s H' s') → Q (.bool (rest.all fun j => holdStep (pAt ps s0) (pAt ps j))) s') : wpAny (model prog w) A (call (.ref 193) [.ref lr, .ref lp]) Q E s := by
  refine' z_enter (ms := []) (binds := [("row", .ref lr), ("positions", .ref lp)]) g le (by simp) (by simp) ?k6 ?k7 hA.room ?kb ?kk ?kn ?_ ?c1 ?c2 ?c3
  tb_rel
  intro L s₁ F
  obtain ⟨ts0, ur, rfl, hur⟩ := hus.cons_inv
  have hurl : ur.length = rest.length := by rw [hur.length]; simp [toI]
  have h0 : s0 < ps.length := hps s0 (by simp)
  have hgp : ∀ j (hj : j < ps.length), ps[j]? = some (pAt ps j) := fun j hj => by
    unfold pAt
    rw [List.getD_eq_getElem?_getD, List.getElem?_eq_getElem hj]; rfl
  obtain ⟨v0, hv0, hp0⟩ := hvs.get (hgp s0 h0)
  generalize pAt ps s0 = f at hp0 h
  have hp0' := hp0
  obtain ⟨x0, a0, t01, t02, rfl, I0, e01, e02⟩ := hp0'
  repeat ktr_rel
  rename Fz _ _ _ _ _ _ _ _ _ => F
  refine z_itemL (F.lst hlp.isList) (x := .int (s0 : Int) ts0) rfl ?_ (by decide) (by simp; omega)
  refine z_itemL (F.lst hlr.isList) (x := .ref x0) (by simpa using hv0) ?_ (by omega) (by rw [hvs.1]; omega)
  repeat ktr_rel
  rename Fz _ _ _ _ _ _ _ _ _ => F
  refine z_mk F ?_
  clear F
  intro sl s₄ hsl F
  repeat ktr_rel
  rename Fz _ _ _ _ _ _ _ _ _ => F
  refine z_slice (items := .int (s0 : Int) ts0 :: ur) (F.lst hlp.isList) F.m0 (.int _ _) .none .none (by decide) (by simp; omega) ?_
  rw [pick_tail]
  replace F := F.forget (pre := [])
  refine z_mkF F ?_
  clear F
  intro l2 s₅ H₁ le₁ hl2 F
  have g₁ := g.up le₁
  clear g
  have I1 := I0.up le₁
  refine for_list hA.hh F (items := ur.toArray) (l := l2) ⟨_, hl2, rfl, _, rfl⟩ (by rfl)
    (fun k H' m' cm' ms' => H' = H₁ ∧ ms' = [] ∧ m' "first" = some (.ref x0) ∧ m' "row" = some (.ref lr) ∧ (rest.take k).all (fun j => holdStep f (pAt ps j)) = true)
    ⟨rfl, rfl, rfl, rfl, rfl⟩ ?_ ?_
  · rintro k v J jo _ m' cm' _ s₆ E' hk hv ⟨rfl, rfl, e1, e2, hall⟩ F
    have F : Fz _ _ _ _ _ _ _ [(J, jo)] _ := F
    obtain ⟨j, tj, rfl, hj⟩ := toI_at hur (by simpa using hv)
    have hjl : j < ps.length := hps j (List.mem_cons_of_mem _ (List.mem_of_getElem? hj))
    obtain ⟨vj, hvj, hpj⟩ := hvs.get (hgp j hjl)
    have hstop : holdStep f (pAt ps j) = false → (rest.all fun j => holdStep f (pAt ps j)) = false := fun q => by
      rw [List.all_eq_false]
      exact ⟨j, List.mem_of_getElem? hj, by rw [q]; exact Bool.false_ne_true⟩
    have hgo : holdStep f (pAt ps j) = true → (rest.take (k + 1)).all (fun j => holdStep f (pAt ps j)) = true := fun q => by
      rw [List.take_add_one, hj, List.all_append, hall]
      simp [q]
    generalize pAt ps j = o at hpj hstop hgo
    have hpj' := hpj
    obtain ⟨x1, a1, t11, t12, rfl, I11, e11, e12⟩ := hpj'
    have I12 := I11.up le₁
    repeat ktr_rel
    rename Fz _ _ _ _ _ _ _ _ _ => F
    refine z_itemL (F.lst (hlr.up le₁).isList) (x := .ref x1) (by simpa using hvj) ?_ (by omega) (by rw [hvs.1]; omega)
    repeat ktr_rel
    rename Fz _ _ _ _ _ _ _ _ _ => F
    refine is_piece_spec g₁ F.le (hA.deeper.less (by omega)) (PieceAt.up le₁ hp0) fun s₇ st => ?_
    replace F := F.next st
    repeat ktr_rel
    refine z_if (fun hb1 => ?_) (fun hb1 => ?_)
    · have hst : holdStep f o = (o.1 == f.1 && o.2 == f.2) := by unfold holdStep; rw [if_pos hb1]
      repeat ktr_rel
      rename Fz _ _ _ _ _ _ _ _ _ => F
      refine z_mk F ?_
      clear F
      intro T1 s₈ hT1 F
      repeat ktr_rel
      rename Fz _ _ _ _ _ _ _ _ _ => F
      refine z_mk F ?_
      clear F
      intro T2 s₉ hT2 F
      refine z_neT2 hA.deeper F.m1 F.m0 ?_
      replace F := F.forget (pre := [])
      replace F := F.forget (pre := [])
      rw [← hst]
      repeat ktr_rel
      refine z_if (fun hb2 => ?_) (fun hb2 => ?_)
      · have := hstop (by simpa using hb2)
        rw [this] at h
        repeat ktr_rel
        rename Fz _ _ _ _ _ _ _ _ _ => F
        repeat ktr_rel
        exact h _ ⟨_, F.st⟩
      · repeat ktr_rel
        rename Fz _ _ _ _ _ _ _ _ _ => F
        repeat ktr_rel
        refine ⟨_, _, _, [], F, .refl, rfl, rfl, ?_, ?_, hgo (by simpa using hb2)⟩ <;> assumption
    · have hst : holdStep f o = !(isP o && o.1 != f.1) := by unfold holdStep; rw [if_neg hb1]
      repeat ktr_rel
      rename Fz _ _ _ _ _ _ _ _ _ => F
      refine is_piece_spec g₁ F.le (hA.deeper.less (by omega)) (PieceAt.up le₁ hpj) fun s₈ st => ?_
      replace F := F.next st
      repeat ktr_rel
      refine z_if (fun hb2 => ?_) (fun hb2 => ?_)
      · repeat ktr_rel
        refine z_if (fun hb3 => ?_) (fun hb3 => ?_)
        · have := hstop (by rw [hst, hb2, hb3]; rfl)
          rw [this] at h
          repeat ktr_rel
          rename Fz _ _ _ _ _ _ _ _ _ => F
          repeat ktr_rel
          exact h _ ⟨_, F.st⟩
        · repeat ktr_rel
          rename Fz _ _ _ _ _ _ _ _ _ => F
          repeat ktr_rel
          refine ⟨_, _, _, [], F, .refl, rfl, rfl, ?_, ?_, hgo (by rw [hst, Bool.eq_false_iff.mpr hb3, Bool.and_false]; rfl)⟩ <;> assumption
      · repeat ktr_rel
        rename Fz _ _ _ _ _ _ _ _ _ => F
        repeat ktr_rel
        refine ⟨_, _, _, [], F, .refl, rfl, rfl, ?_, ?_, hgo (by rw [hst, Bool.eq_false_iff.mpr hb2, Bool.false_and]; rfl)⟩ <;> assumption
  · rintro _ m' cm' _ s₆ ⟨rfl, rfl, e1, e2, hall⟩ F
    rw [List.size_toArray, hurl, List.take_length] at hall
    rw [hall] at h
    repeat ktr_rel
    rename Fz _ _ _ _ _ _ _ _ _ => F
    repeat ktr_rel
    exact h _ ⟨_, F.st⟩
end ht

-- part HS
def PdOk (p : Int × Int) : Prop := (0 ≤ p.1 ∧ p.1 < 3) ∧ (0 ≤ p.2 ∧ p.2 < 3)
theorem mulOk {a b : Int} (h0 : 0 ≤ a) (h1 : a < 3) : IntMulOk a b := by
  have : a = 0 ∨ a = 1 ∨ a = 2 := by omega
  rcases this with rfl | rfl | rfl <;> exact IntMulOk.of_left (by decide)
theorem isP_mul {p : Int × Int} (h : PdOk p) : decide (p.1 * p.2 > 0) = isP p := by
  obtain ⟨⟨a, b⟩, c, d⟩ := h
  obtain ⟨x, y⟩ := p
  have hx : x = 0 ∨ x = 1 ∨ x = 2 := by simp at a b; omega
  have hy : y = 0 ∨ y = 1 ∨ y = 2 := by simp at c d; omega
  rcases hx with rfl | rfl | rfl <;> rcases hy with rfl | rfl | rfl <;> decide
def PieceV (H : Heap) (v : Value) (p : Int × Int) : Prop := if isP p = true then ∃ T t1 t2, v = .ref T ∧ TA H T [.int p.1 t1, .int p.2 t2] else v = .none
theorem PieceV.up {H H' : Heap} {v : Value} {p : Int × Int} (k : Le H H') (x : PieceV H v p) : PieceV H' v p := by
  unfold PieceV at *
  split
  · rename_i h
    rw [if_pos h] at x
    obtain ⟨T, t1, t2, e, hT⟩ := x
    exact ⟨T, t1, t2, e, hT.up k⟩
  · rename_i h
    rw [if_neg h] at x
    exact x
section hp
variable {prog : Program} {w : World} {A : Around} {E Q : Value → Shared → Prop} {s : Shared} {H : Heap}
theorem z_join {M : Model} {s₀ s : Shared} {H₀ H : Heap} {W : List Addr} {env : Env} {m cm : Str → Option Value} {ms : List (Addr × Obj)} {e : Expr} {E Q : Value → Shared → Prop} (F : Fz s₀ H₀ W env H m cm ms s) (K : Heap → Value → Prop)
    (h1 : wpAny M A (eval e env) (fun v s' => ∃ H', Le H H' ∧ K H' v ∧ Fz s₀ H₀ W env H' m cm ms s') E s) (h2 : ∀ v s' H', Le H H' → K H' v → Fz s₀ H₀ W env H' m cm ms s' → Q v s') : wpAny M A (eval e env) Q E s :=
  wpAny_mono h1 (fun v s' ⟨H', a, b, c⟩ => h2 v s' H' a b c) fun _ _ x => x
/-- where some pieces stand -/
def SpotsAt (n : Nat) (H : Heap) (v : Value) : Prop := ∃ D us s0 rest, v = .ref D ∧ LA H D us ∧ IntsAre us (toI (s0 :: rest)) ∧ (∀ j ∈ s0 :: rest, j < n) ∧ rest.length ≤ 5

theorem z_join0 {M : Model} {s₀ s : Shared} {H₀ H : Heap} {W : List Addr} {env : Env} {m cm : Str → Option Value} {ms : List (Addr × Obj)} {e : Expr} {E Q : Value → Shared → Prop} (_ : Fz s₀ H₀ W env H m cm ms s) (K : Value → Prop)
    (h1 : wpAny M A (eval e env) (fun v s' => K v ∧ Fz s₀ H₀ W env H m cm ms s') E s) (h2 : ∀ v s', K v → Fz s₀ H₀ W env H m cm ms s' → Q v s') : wpAny M A (eval e env) Q E s :=
  wpAny_mono h1 (fun v s' ⟨a, b⟩ => h2 v s' a b) fun _ _ x => x

theorem ready_tuple {s₀ s : Shared} {H₀ H : Heap} {W : List Addr} {env : Env} {m cm : Str → Option Value} {ms : List (Addr × Obj)} {scope : Scope} {cl : List (Str × Addr)} {x : Str} {ifs : List Expr} {elt : Expr} {T : Addr → Addr → Shared → Prop} {l : Addr} {items : Array Value} (hh : A.handled = none) (F : Fz s₀ H₀ W env H m cm ms s) (hl : H.IsTuple l items)
    (hcl : ClOk cl env) (hsz : items.size ≤ sizeLine) (J : Nat → List Value → Heap → List (Addr × Obj) → Prop) (h0 : J 0 [] H ms) (step : CompStep prog w A env cm scope cl x ifs elt items.size (fun i v => items[i]? = some v) H J)
    (fin : ∀ D C ys H' ms' nn co mC s', s₀.heap.get? D = none → s₀.heap.get? C = none → J items.size ys H' ms' → Le H H' → ms'.map (·.1) = ms.map (·.1) → Fz s₀ H₀ W env H' m cm ((C, co) :: (D, listOf ys.toArray nn) :: ms') s' → s'.heap.Ns C mC → T D C s') :
    wpAny (model prog w) A (pyIter (.ref l)) (fun it s₂ => Ready prog w A env scope cl x ifs elt it s₂ T) E s := by
  have hl' : s.heap.IsTuple l items := hl.at fun o e => F.le _ _ e
  refine wpAny_pyIter_tuple hl' ?_
  obtain ⟨G, n0⟩ := F.push { cls := .type "tuple_iterator", data := .fields #[.ref l, .int 0 0] }
  obtain ⟨ol, hol, _⟩ := id hl
  have hne : l ≠ s.heap.objs.size := Nat.ne_of_lt (Heap.lt_size (F.le _ _ hol))
  repeat ktr_rel
  exact ⟨_, _, _, _, _, _, s₀, H₀, W, H, m, cm, ms, J, rfl, Walks.tuple hh _ l hne items, fun i h x => let ⟨o, ho, _⟩ := x.1; ⟨o, ho⟩, G, n0, ⟨⟨_, Heap.get?_push_size _ rfl, rfl, rfl⟩, hl'.push _⟩,
    fun b hb => by simp at hb; rcases hb with rfl | rfl; exact .inl rfl; exact .inr ⟨_, hol⟩, h0, hcl, hsz, step, fin⟩

theorem z_listT {s₀ s : Shared} {H₀ H : Heap} {W : List Addr} {env : Env} {m cm : Str → Option Value} {ms : List (Addr × Obj)} {T : Addr} {vs : List Value} (F : Fz s₀ H₀ W env H m cm ms s) (hT : TA s.heap T vs) (hsz : vs.length ≤ 1000)
    (h : ∀ D n s', s₀.heap.get? D = none → Fz s₀ H₀ W env H m cm ((D, listOf vs.toArray n) :: ms) s' → Q (.ref D) s') : wpAny (model prog w) A (call (.type "list") [.ref T]) Q E s := by
  refine call_list_seq T (T := "tuple") (.inr rfl) hT rfl rfl (fun h' c' hk ho => ?_) (by rw [List.size_toArray, sizeLine_eq]; omega)
  obtain ⟨n0, G⟩ := F.gained (tk := s.toks) hk (fresh_size _) ho
  repeat ktr_rel
  exact h _ _ _ n0 G

theorem told_spec {x : Addr} {pl : List Int} (g : Gl (hd.heap_1 w.params) H) (le : Le H s.heap) (hA : Ok A 2) (hx : CovAt H x pl)
    (h : ∀ T vs s', St [] H s H s' → TA H T vs → IntsAre vs pl → Q (.ref T) s') : wpAny (model prog w) A (call (.ref 363) [.ref x]) Q E s := by
  refine' z_enter (ms := []) (binds := [("self", .ref x)]) g le (by simp) (by simp) ?k6 ?k7 hA.room ?kb ?kk ?kn ?_ ?c1 ?c2 ?c3
  tb_rel
  intro L s₁ F
  obtain ⟨a, T, vs, I, hgl, hr, hT, hi⟩ := hx
  repeat ktr_rel
  rename Fz _ _ _ _ _ _ _ _ _ => F
  refine call_tuple_tup (hT.up F.le).isTup ?_
  repeat ktr_rel
  exact h T vs _ F.st hT hi

theorem z_eqPV {v : Value} {T : Addr} {o f : Int × Int} {t1 t2 : Tok} {n : Nat} (hA : Ok A n) (hv : PieceV s.heap v o) (hT : TA s.heap T [.int f.1 t1, .int f.2 t2]) (hf : isP f = true) (h : Q (.bool (holdStep f o)) s) :
    wpAny (model prog w) A (compareOp .Eq v (.ref T)) Q E s := by
  unfold holdStep at h
  rw [if_pos hf] at h
  unfold PieceV at hv
  by_cases ho : isP o = true
  · rw [if_pos ho] at hv
    obtain ⟨U, u1, u2, rfl, hU⟩ := hv
    refine eq_dataH (.tuple hU rfl rfl (.cons (.int o.1 u1) (.cons (.int o.2 u2) .nil))) (.tuple hT rfl rfl (.cons (.int f.1 t1) (.cons (.int f.2 t2) .nil))) rfl rfl hA.room64 ?_
    rw [show PyData.eqv (.tuple [.int o.1, .int o.2]) (.tuple [.int f.1, .int f.2]) = (o.1 == f.1 && o.2 == f.2) by simp [PyData.eqv, PyData.eqvAll]]
    exact h
  · rw [if_neg ho] at hv
    subst hv
    refine eq_dataH .none (.tuple hT rfl rfl (.cons (.int f.1 t1) (.cons (.int f.2 t2) .nil))) rfl rfl hA.room64 ?_
    have : (o.1 == f.1 && o.2 == f.2) = false := by
      rw [Bool.eq_false_iff]
      intro q
      rw [Bool.and_eq_true, beq_iff_eq, beq_iff_eq] at q
      apply ho
      rw [show o = f from Prod.ext q.1 q.2]
      exact hf
    rw [this] at h
    exact h
/-- a row that a coverage tells -/
def CovRow (H : Heap) (v : Value) (ns : List Int) : Prop := ∃ T T2 t vs, v = .ref T ∧ TA H T [.str "cover" t, .ref T2] ∧ TA H T2 vs ∧ IntsAre vs ns
theorem CovRow.up {H H' : Heap} {v : Value} {ns : List Int} (k : Le H H') : CovRow H v ns → CovRow H' v ns := fun ⟨T, T2, t, vs, e, h1, h2, i⟩ => ⟨T, T2, t, vs, e, h1.up k, h2.up k, i⟩
theorem CovRow.reads {H : Heap} {v : Value} {ns : List Int} (x : CovRow H v ns) : Reads H v (.tuple [.str "cover", .tuple (ns.map .int)]) [] := by
  obtain ⟨T, T2, t, vs, rfl, h1, h2, i⟩ := x
  exact .tuple (as := [] ++ ([] ++ [])) h1 rfl rfl (.cons (.str _ t) (.cons (.tuple h2 rfl rfl (by simpa using i.reads H)) .nil))
end hp

-- part HP
section hp
variable {prog : Program} {w : World} {A : Around} {E Q : Value → Shared → Prop} {s : Shared} {H : Heap}
theorem TagV.reads {n : Str} {H : Heap} {u : Value} {k : Int} {t : Tok} (x : TagV n H u (.int k t)) : Reads H u (.tuple [.str n, .int k]) [] := by
  obtain ⟨T, t', rfl, h⟩ := x
  exact .tuple (as := [] ++ ([] ++ [])) h rfl rfl (.cons (.str _ _) (.cons (.int _ _) .nil))
theorem pieces_spec {P : Addr} {o : Obj} (g : Gl (hd.heap_1 w.params) H) (le : Le H s.heap) (hA : Ok A 9) (hP : s.heap.get? P = some o) (hH : H.get? P = none) (ho : PoolAt o)
    (h : ∀ s', (∃ H', St [P] H s H' s') → Q (.bool true) s') :
    wpAny (model prog w) A (call (.ref 476) [.ref P]) Q E s := by
  refine' z_enter (ms := [(P, o)]) (binds := [("pool", .ref P)]) g le (by simpa using ⟨hP, hH⟩) (by simp) ?k6 ?k7 hA.room ?kb ?kk ?kn ?_ ?c1 ?c2 ?c3
  tb_rel
  intro L s₁ F
  repeat ktr_rel
  rename Fz _ _ _ _ _ _ _ _ _ => F
  refine z_mk F ?_
  clear F
  intro R s₂ hR F
  repeat ktr_rel
  rename Fz _ _ _ _ _ _ _ _ _ => F
  refine z_take (pre := [_]) F g (hA.deeper.less (by omega)) ho (by decide) (by decide) ?_
  clear F
  intro k t₁ o' s₃ k0 k1 ho' F
  repeat ktr_rel
  rename Fz _ _ _ _ _ _ _ _ _ => F
  obtain ⟨n, hn⟩ : ∃ n : Nat, 1 + k = (n : Int) := ⟨(1 + k).toNat, by omega⟩
  rw [hn]
  have hn5 : 1 ≤ n ∧ n ≤ 5 := by omega
  refine z_range F ?_
  clear F
  intro r u v s₄ hr F
  refine for_range0 hA.hh F (by omega) (by rfl)
    (fun i H' m' cm' ms' => ∃ vs nn o' ps, ms' = [(R, listOf (List.toArray vs) nn), (P, o')] ∧ cm' "infos" = some (.ref R) ∧ cm' "pool" = some (.ref P) ∧ PoolAt o' ∧ All2 (PieceAt H') vs ps ∧ ps.length = i ∧ (∀ p ∈ ps, PdOk p) ∧ Le H H')
    ⟨[], _, _, [], rfl, rfl, rfl, ho', .nil, rfl, by simp, .refl⟩ ?_ ?_
  · rintro i v I io H' m' cm' ms' s₅ E' hi ⟨t, rfl⟩ ⟨vs, nn, o', ps, rfl, e1, e2, ho', hps, hlen, hok, le'⟩ F
    have g' := g.up le'
    clear g
    have F : Fz _ _ _ _ _ _ _ [(R, listOf (List.toArray vs) nn), (P, o'), (I, io)] _ := F
    repeat ktr_rel
    rename Fz _ _ _ _ _ _ _ _ _ => F
    refine info_new g' F.le (hA.deeper.less (by omega)) ?_
    intro x dx od a s₆ H₂ n1 st hx hdx hod hN hgl
    obtain ⟨G, hdx₀⟩ := F.made st n1 hdx hod
    clear F
    have g₂ := g'.up st.le
    have hps := hps.mono fun _ _ => PieceAt.up st.le
    have le₂ := le'.trans st.le
    clear g' hod hgl
    repeat ktr_rel
    rename Fz _ _ _ _ _ _ _ _ _ => F
    refine z_take (pre := [_, _]) F g₂ (hA.deeper.less (by omega)) ho' (by decide) (by decide) ?_
    clear F
    intro d1 t₂ o' s₇ d10 d11 ho' F
    repeat ktr_rel
    rename Fz _ _ _ _ _ _ _ _ _ => F
    refine z_take (pre := [_, _]) F g₂ (hA.deeper.less (by omega)) ho' (by decide) (by decide) ?_
    clear F
    intro d2 t₃ o' s₈ d20 d21 ho' F
    repeat ktr_rel
    rename Fz _ _ _ _ _ _ _ _ _ => F
    refine z_lappend F.m1 ?_
    repeat ktr_rel
    rename Fz _ _ _ _ _ _ _ _ _ => F
    refine z_append (pre := [_]) F (by rw [hps.1]; omega) ?_
    clear F
    intro n' s₉ F
    repeat ktr_rel
    rename Fz _ _ _ _ _ _ _ _ _ => F
    rename NsObj _ _ _ => hN
    obtain ⟨H₃, le₃, hdx₃, G⟩ := F.freeze hdx₀
    repeat ktr_rel
    refine ⟨H₃, _, _, [(R, _), (P, o')], G, st.le.trans le₃, _, _, o', ps ++ [(d1, d2)], rfl, e1, e2, ho', (hps.mono fun _ _ => PieceAt.up le₃).snoc ⟨x, _, t₂, t₃, rfl, ⟨dx, _, _, le₃ _ _ hx, hdx₃, hN⟩, rfl, rfl⟩, by simp [hlen], ?_, le₂.trans le₃⟩
    intro p hp
    rcases List.mem_append.mp hp with q | q
    · exact hok p q
    · rw [List.mem_singleton.mp q]; exact ⟨⟨d10, d11⟩, d20, d21⟩
  · rintro H' m' cm' ms' s₅ ⟨vs, nn, o', ps, rfl, e1, e2, ho', hps, hlen, hok, le'⟩ F
    have g' := g.up le'
    clear g
    obtain ⟨H₁, le₁, hR₁, G⟩ := F.freeze hR
    clear F
    have g₁ := g'.up le₁
    clear g'
    have hps := hps.mono fun _ _ => PieceAt.up le₁
    have hLR : LA H₁ R vs := ⟨_, hR₁⟩
    clear hR₁
    repeat ktr_rel
    refine z_compA (by rfl) rfl (by decide) rfl (by decide) rfl ?_
    repeat ktr_rel
    rename Fz _ _ _ _ _ _ _ _ _ => F
    refine z_len F (F.lst hLR.isList) (by rw [List.size_toArray, hps.1, sizeLine_eq]; omega) ?_
    clear F
    intro t₂ s₆ F
    rw [List.size_toArray, hps.1, hlen]
    repeat ktr_rel
    rename Fz _ _ _ _ _ _ _ _ _ => F
    refine z_range F ?_
    clear F
    intro r u v s₇ hr F
    refine ready_range0 hA.hh F ⟨by intro n c h; simp at h; obtain ⟨rfl, rfl⟩ := h; exact ⟨rfl, rfl⟩, by simp⟩ (by omega)
      (fun i ys H' ms' => ∃ l o', ms' = [(P, o')] ∧ PoolAt o' ∧ IntsAre ys (toI l) ∧ (∀ x ∈ l, x < n) ∧ l.length ≤ i)
      ⟨[], o', rfl, ho', .nil, by simp, by simp⟩ ?_ ?_
    · rintro i v ys H' ms' s₈ C mC E' hi ⟨t, rfl⟩ ⟨l, o', rfl, ho', hl, hln, hll⟩ le₂ e3 F
      have g₂ := g₁.up le₂
      clear g₁
      repeat ktr_rel
      rename Fz _ _ _ _ _ _ _ _ _ => F
      refine z_take (pre := []) F g₂ (hA.deeper.less (by omega)) ho' (by decide) (by decide) ?_
      clear F
      intro c t₃ o' s₉ c0 c1 ho' F
      repeat ktr_rel
      refine z_if (fun hb => ?_) (fun hb => ?_)
      · repeat ktr_rel
        rename Fz _ _ _ _ _ _ _ _ _ => F
        repeat ktr_rel
        refine ⟨H', _, F, rfl, l ++ [i], o', rfl, ho', ?_, ?_, by simp; omega⟩
        · rw [toI_snoc]; exact IntsAre.snoc hl _ _
        · intro x hx
          rcases List.mem_append.mp hx with q | q
          · exact hln x q
          · rw [List.mem_singleton.mp q]; exact hi
      · repeat ktr_rel
        rename Fz _ _ _ _ _ _ _ _ _ => F
        repeat ktr_rel
        exact ⟨H', _, F, rfl, l, o', rfl, ho', hl, hln, by omega⟩
    · rintro D C ys H' ms' nn2 co mC s₈ hD hC ⟨l, o', rfl, ho', hl, hln, hll⟩ le₂ - F hN
      refine z_endA (by rfl) hC F hN fun s'' hN' hF => ⟨mC, hN', fun h' hs => ?_⟩
      clear F
      have F := hF h' hs
      clear hF
      have g₂ := g₁.up le₂
      clear g₁
      have hps2 := hps.mono fun _ _ => PieceAt.up le₂
      have hLR2 := hLR.up le₂
      clear hps hLR
      obtain ⟨H₃, le₃, hD₃, G⟩ := F.freeze hD
      clear F
      have g₃ := g₂.up le₃
      clear g₂
      have hps3 := hps2.mono fun _ _ => PieceAt.up le₃
      have hLR3 := hLR2.up le₃
      clear hps2 hLR2
      first | (refine z_cons ?_; intro _ _) | (refine Hid.use (by assumption) ?_; refine z_cons ?_; intro _ _)
      refine wpAny_Assign_Name ?_
      refine z_join G (SpotsAt n) ?_ ?_
      · repeat ktr_rel
        rename Fz _ _ _ _ _ _ _ _ _ => F
        refine z_mk F ?_
        clear F
        intro T s₉ hT F
        refine z_eqI hA.deeper ((show LA H₃ D ys from ⟨_, hD₃⟩).up F.le) ⟨0, F.m0⟩ hl .nil ?_
        replace F := F.forget (pre := [])
        repeat ktr_rel
        refine z_if (fun hb => ?_) (fun hb => ?_)
        · repeat ktr_rel
          rename Fz _ _ _ _ _ _ _ _ _ => F
          refine z_mkF F ?_
          clear F
          intro T2 s₁₀ H₄ le₄ hT2 F
          repeat ktr_rel
          exact ⟨H₄, le₄, ⟨T2, _, 0, [], rfl, ⟨0, hT2⟩, .cons _ _ .nil, by simp; omega, by simp⟩, F⟩
        · repeat ktr_rel
          rename Fz _ _ _ _ _ _ _ _ _ => F
          obtain ⟨s0, rest, rfl⟩ : ∃ s0 rest, l = s0 :: rest := by
            cases l with
            | nil => exact absurd (decide_eq_true rfl) hb
            | cons a b => exact ⟨a, b, rfl⟩
          repeat ktr_rel
          exact ⟨H₃, .refl, ⟨D, ys, s0, rest, rfl, ⟨_, hD₃⟩, hl, hln, by simp at hll; omega⟩, F⟩
      · intro v s₉ H₄ le₄ hsp F
        obtain ⟨D', us, s0, rest, rfl, hLD, hus, hsn, hr5⟩ := hsp
        clear G
        have g₄ := g₃.up le₄
        clear g₃
        have hps4 := hps3.mono fun _ _ => PieceAt.up le₄
        have hLR4 := hLR3.up le₄
        clear hps3 hLR3 hD₃
        have hus2 : us.length = rest.length + 1 := by rw [hus.length]; simp [toI]
        repeat ktr_rel
        refine z_compA (by rfl) rfl (by decide) rfl (by decide) rfl ?_
        repeat ktr_rel
        rename Fz _ _ _ _ _ _ _ _ _ => F
        have hgp : ∀ j, j < n → ps[j]? = some (pAt ps j) := fun j hj => by
          unfold pAt
          rw [List.getD_eq_getElem?_getD, List.getElem?_eq_getElem (by rw [hlen]; exact hj)]; rfl
        refine ready_list hA.hh F (items := us.toArray) hLD.isList ⟨by intro n c h; simp at h; obtain ⟨rfl, rfl⟩ := h; exact ⟨rfl, rfl⟩, by simp⟩ (by rw [List.size_toArray, sizeLine_eq]; omega)
          (fun i ys H' ms' => ms' = [(P, o')] ∧ All2 (PieceAt H') ys (((s0 :: rest).take i).map (pAt ps))) ⟨rfl, .nil⟩ ?_ ?_
        · rintro i v ys H' ms' s₁₀ C mC E' hi hv ⟨rfl, hy⟩ le₅ e3 F
          obtain ⟨j, tj, rfl, hj⟩ := toI_at hus (by simpa using hv)
          have hjn := hsn j (List.mem_of_getElem? hj)
          obtain ⟨vj, hvj, hpj⟩ := hps4.get (hgp j hjn)
          repeat ktr_rel
          rename Fz _ _ _ _ _ _ _ _ _ => F
          refine z_itemL (F.lst (hLR4.up le₅).isList) (x := vj) (by simpa using hvj) ?_ (by omega) (by rw [hps4.1]; omega)
          repeat ktr_rel
          refine ⟨H', _, F, rfl, rfl, ?_⟩
          rw [List.take_add_one, hj, List.map_append]
          exact hy.snoc (PieceAt.up le₅ hpj)
        · rintro D2 C ys H' ms' nn3 co mC s₁₀ hD2 hC ⟨rfl, hy⟩ le₅ - F hN
          refine z_endA (by rfl) hC F hN fun s'' hN' hF => ⟨mC, hN', fun h' hs => ?_⟩
          clear F
          have F := hF h' hs
          clear hF
          rw [List.size_toArray, hus2, show (s0 :: rest).take (rest.length + 1) = s0 :: rest from List.take_of_length_le (by simp)] at hy
          obtain ⟨H₅, le₆, hD₅, G⟩ := F.freeze hD2
          clear F
          have le45 := le₅.trans le₆
          have g₅ := g₄.up le45
          clear g₄
          have hps5 := hps4.mono fun _ _ => PieceAt.up le45
          have hLR5 := hLR4.up le45
          have hLD5 := hLD.up le45
          have hy5 := hy.mono fun _ _ => PieceAt.up le₆
          have hLy : LA H₅ D2 ys := ⟨_, hD₅⟩
          clear hps4 hLR4 hLD hy hD₅
          have hpd : ∀ j, j < n → PdOk (pAt ps j) := fun j hj => hok _ (List.mem_of_getElem? (hgp j hj))
          repeat ktr_rel
          refine z_compA (by rfl) rfl (by decide) rfl (by decide) rfl ?_
          repeat ktr_rel
          rename Fz _ _ _ _ _ _ _ _ _ => F
          refine ready_list hA.hh F (items := ys.toArray) hLy.isList ⟨by intro n c h; simp at h, by simp⟩ (by rw [List.size_toArray, hy5.1, List.length_map, List.length_cons, sizeLine_eq]; omega)
            (fun i zs H' ms' => ms' = [(P, o')] ∧ All2 (PieceV H') zs (((s0 :: rest).map (pAt ps)).take i)) ⟨rfl, .nil⟩ ?_ ?_
          · rintro i v zs H' ms' s₁₁ C mC E' hi hv ⟨rfl, hz⟩ le₇ e3 F
            have hv' : ys[i]? = some v := by simpa using hv
            have hi' : i < ((s0 :: rest).map (pAt ps)).length := by rw [← hy5.1]; simpa using hi
            have hq := List.getElem?_eq_getElem hi'
            have hqm := List.getElem_mem hi'
            generalize ((s0 :: rest).map (pAt ps))[i] = q at hq hqm
            have hqd : PdOk q := by
              obtain ⟨j, hj, rfl⟩ := List.mem_map.mp hqm
              exact hpd j (hsn j hj)
            obtain ⟨x, a, tp1, tp2, rfl, I, e5, e6⟩ := PieceAt.up le₇ (hy5.2 i v q hv' hq)
            have hmul : IntMulOk q.1 q.2 := mulOk hqd.1.1 hqd.1.2
            have g₆ := g₅.up le₇
            clear g₅
            repeat ktr_rel
            rw [show decide (0 < q.1 * q.2) = isP q from isP_mul hqd]
            refine z_if (fun hb => ?_) (fun hb => ?_)
            · repeat ktr_rel
              rename Fz _ _ _ _ _ _ _ _ _ => F
              refine z_mkF F ?_
              clear F
              intro T s₁₂ H₆ le₈ hT F
              repeat ktr_rel
              refine ⟨H₆, _, F, rfl, rfl, ?_⟩
              rw [List.take_add_one, hq]
              exact (hz.mono fun _ _ => PieceV.up le₈).snoc (show PieceV H₆ (.ref T) q by unfold PieceV; rw [if_pos hb]; exact ⟨T, tp1, tp2, rfl, hT⟩)
            · repeat ktr_rel
              rename Fz _ _ _ _ _ _ _ _ _ => F
              repeat ktr_rel
              refine ⟨H', _, F, rfl, rfl, ?_⟩
              rw [List.take_add_one, hq]
              exact hz.snoc (show PieceV H' .none q by unfold PieceV; rw [if_neg hb])
          · rintro D3 C zs H' ms' nn4 co mC s₁₁ hD3 hC ⟨rfl, hz⟩ le₇ - F hN
            refine z_endA (by rfl) hC F hN fun s'' hN' hF => ⟨mC, hN', fun h' hs => ?_⟩
            clear F
            have F := hF h' hs
            clear hF
            rw [List.size_toArray, hy5.1, List.take_length] at hz
            obtain ⟨H₆, le₈, hD₆, G⟩ := F.freeze hD3
            clear F
            have le56 := le₇.trans le₈
            have g₆ := g₅.up le56
            clear g₅
            have hps6 := hps5.mono fun _ _ => PieceAt.up le56
            have hLR6 := hLR5.up le56
            have hLD6 := hLD5.up le56
            have hy6 := hy5.mono fun _ _ => PieceAt.up le56
            have hLy6 := hLy.up le56
            have hz6 := hz.mono fun _ _ => PieceV.up le₈
            have hLz : LA H₆ D3 zs := ⟨_, hD₆⟩
            clear hps5 hLR5 hLD5 hy5 hz hD₆ hLy
            have hyl : ys.length = rest.length + 1 := by rw [hy6.1]; simp
            have hzl : zs.length = rest.length + 1 := by rw [hz6.1]; simp
            obtain ⟨y0, yr, rfl, hy0, hyr⟩ := hy6.cons_inv
            obtain ⟨z0, zr, rfl, hz0, hzr⟩ := hz6.cons_inv
            repeat ktr_rel
            rename Fz _ _ _ _ _ _ _ _ _ => F
            refine z_len F (F.lst hLy6.isList) (by rw [List.size_toArray, hyl, sizeLine_eq]; omega) ?_
            clear F
            intro t₅ s₁₂ F
            rw [List.size_toArray, hyl, show ((rest.length + 1 : Nat) : Int) = 1 + (rest.length : Int) by omega]
            repeat ktr_rel
            rename Fz _ _ _ _ _ _ _ _ _ => F
            refine z_range2 F ?_
            clear F
            intro r v s₁₃ hr F
            have hrr := F.m0
            replace F := F.forget (pre := [])
            refine for_range hA.hh F (n := rest.length) hrr (by decide) (by rw [sizeLine_eq]; omega) (by rfl)
              (fun i H' m' cm' ms' => H' = H₆ ∧ ms' = [(P, o')] ∧ m' "pieces" = some (.ref D3) ∧ m' "some" = some (.ref D2) ∧ m' "spots" = some (.ref D') ∧ cm' "infos" = some (.ref R) ∧ m' "due" = some (.bool ((rest.take i).all fun j => holdStep (pAt ps s0) (pAt ps j))))
              ⟨rfl, rfl, rfl, rfl, rfl, by assumption, rfl⟩ ?_ ?_
            · rintro i v I io _ m' cm' _ s₁₄ E' hi ⟨t, rfl⟩ ⟨rfl, rfl, e5, e6, e7, e8, e9⟩ F
              have F : Fz _ _ _ _ _ _ _ [(P, o'), (I, io)] _ := F
              have hqj : (rest.map (pAt ps))[i]? = some (pAt ps rest[i]) := by rw [List.getElem?_map, List.getElem?_eq_getElem hi]; rfl
              obtain ⟨zi, hzi, hzo⟩ := hzr.get hqj
              obtain ⟨yi, hyi, hyo⟩ := hyr.get hqj
              obtain ⟨f, ef⟩ : ∃ f, f = pAt ps s0 := ⟨_, rfl⟩
              obtain ⟨q, eq⟩ : ∃ q, q = pAt ps rest[i] := ⟨_, rfl⟩
              obtain ⟨b, eb⟩ : ∃ b, b = (rest.take i).all (fun j => holdStep (pAt ps s0) (pAt ps j)) := ⟨_, rfl⟩
              have hall : (rest.take (i + 1)).all (fun j => holdStep (pAt ps s0) (pAt ps j)) = (b && holdStep f q) := by
                rw [eb, ef, eq, List.take_add_one, List.getElem?_eq_getElem hi, List.all_append]; simp
              rw [← eb] at e9
              have hz0' := hz0
              rw [← ef] at hz0'
              have hy0' := hy0
              rw [← ef] at hy0'
              rw [← eq] at hzo hyo
              clear ef eq eb
              have hix : ((1 : Int) + (i : Int)).toNat = i + 1 := by omega
              have zitem : (z0 :: zr).toArray[((1 : Int) + (i : Int)).toNat]? = some zi := by rw [hix]; simpa using hzi
              have yitem : (y0 :: yr).toArray[((1 : Int) + (i : Int)).toNat]? = some yi := by rw [hix]; simpa using hyi
              repeat ktr_rel
              rename Fz _ _ _ _ _ _ _ _ _ => F
              refine z_itemL (F.lst hLz.isList) (x := z0) rfl ?_ (by decide) (by rw [hzl]; omega)
              repeat ktr_rel
              by_cases hf : isP f = true
              · unfold PieceV at hz0'
                rw [if_pos hf] at hz0'
                obtain ⟨T0, u1, u2, rfl, hT0⟩ := hz0'
                refine (if_pos rfl).mpr ?_
                first | (refine z_cons ?_; intro _ _) | (refine Hid.use (by assumption) ?_; refine z_cons ?_; intro _ _)
                refine wpAny_Assign_Name ?_
                rename Fz _ _ _ _ _ _ _ _ _ => F
                refine z_join0 F (fun v => v = .bool (b && holdStep f q)) ?_ ?_
                · repeat ktr_rel
                  refine z_if (fun hb => ?_) (fun hb => ?_)
                  · repeat ktr_rel
                    rename Fz _ _ _ _ _ _ _ _ _ => F
                    refine z_itemL (F.lst hLz.isList) zitem ?_ (by omega) (by rw [hzl]; omega)
                    repeat ktr_rel
                    rename Fz _ _ _ _ _ _ _ _ _ => F
                    refine z_itemL (F.lst hLz.isList) (x := .ref T0) rfl ?_ (by decide) (by rw [hzl]; omega)
                    refine z_eqPV hA.deeper (PieceV.up F.le hzo) (hT0.up F.le) hf ?_
                    repeat ktr_rel
                    exact ⟨by rw [hb, Bool.true_and], F⟩
                  · rename Fz _ _ _ _ _ _ _ _ _ => F
                    repeat ktr_rel
                    exact ⟨by rw [Bool.eq_false_iff.mpr hb, Bool.false_and], F⟩
                · rintro _ s₁₅ rfl F
                  repeat ktr_rel
                  rename Fz _ _ _ _ _ _ _ _ _ => F
                  repeat ktr_rel
                  refine ⟨_, _, _, [(P, o')], F, .refl, rfl, rfl, ?_, ?_, ?_, e8, by rw [hall]; rfl⟩ <;> assumption
              · unfold PieceV at hz0'
                rw [if_neg hf] at hz0'
                subst hz0'
                refine (if_neg (by exact Bool.false_ne_true)).mpr ?_
                repeat ktr_rel
                rename Fz _ _ _ _ _ _ _ _ _ => F
                refine z_itemL (F.lst hLz.isList) zitem ?_ (by omega) (by rw [hzl]; omega)
                repeat ktr_rel
                by_cases ho : isP q = true
                · have hhs : holdStep f q = (q.1 == f.1) := by
                    unfold holdStep
                    rw [if_neg hf, ho, Bool.true_and]
                    simp [bne]
                  unfold PieceV at hzo
                  rw [if_pos ho] at hzo
                  obtain ⟨T0, u1, u2, rfl, hT0⟩ := hzo
                  obtain ⟨x0, a0, t01, t02, rfl, I0, f1, f2⟩ := hy0'
                  obtain ⟨x1, a1, t11, t12, rfl, I1, f3, f4⟩ := hyo
                  refine (if_pos rfl).mpr ?_
                  first | (refine z_cons ?_; intro _ _) | (refine Hid.use (by assumption) ?_; refine z_cons ?_; intro _ _)
                  refine wpAny_Assign_Name ?_
                  rename Fz _ _ _ _ _ _ _ _ _ => F
                  refine z_join0 F (fun v => v = .bool (b && holdStep f q)) ?_ ?_
                  · repeat ktr_rel
                    refine z_if (fun hb => ?_) (fun hb => ?_)
                    · repeat ktr_rel
                      rename Fz _ _ _ _ _ _ _ _ _ => F
                      refine z_itemL (F.lst hLy6.isList) yitem ?_ (by omega) (by rw [hyl]; omega)
                      repeat ktr_rel
                      rename Fz _ _ _ _ _ _ _ _ _ => F
                      refine z_itemL (F.lst hLy6.isList) (x := .ref x0) rfl ?_ (by decide) (by rw [hyl]; omega)
                      repeat ktr_rel
                      rename Fz _ _ _ _ _ _ _ _ _ => F
                      repeat ktr_rel
                      exact ⟨by rw [hb, Bool.true_and, hhs], F⟩
                    · rename Fz _ _ _ _ _ _ _ _ _ => F
                      repeat ktr_rel
                      exact ⟨by rw [Bool.eq_false_iff.mpr hb, Bool.false_and], F⟩
                  · rintro _ s₁₅ rfl F
                    repeat ktr_rel
                    rename Fz _ _ _ _ _ _ _ _ _ => F
                    repeat ktr_rel
                    refine ⟨_, _, _, [(P, o')], F, .refl, rfl, rfl, ?_, ?_, ?_, e8, by rw [hall]; rfl⟩ <;> assumption
                · have hhs : holdStep f q = true := by
                    unfold holdStep
                    rw [if_neg hf, Bool.eq_false_iff.mpr ho, Bool.false_and]; rfl
                  unfold PieceV at hzo
                  rw [if_neg ho] at hzo
                  subst hzo
                  refine (if_neg (by exact Bool.false_ne_true)).mpr ?_
                  repeat ktr_rel
                  rename Fz _ _ _ _ _ _ _ _ _ => F
                  rw [hhs, Bool.and_true] at hall
                  repeat ktr_rel
                  refine ⟨_, _, _, [(P, o')], F, .refl, rfl, rfl, ?_, ?_, ?_, e8, by rw [hall]; assumption⟩ <;> assumption
            · rintro _ m' cm' _ s₁₄ ⟨rfl, rfl, e5, e6, e7, e8, e9⟩ F
              rw [List.take_length] at e9
              repeat ktr_rel
              rename Fz _ _ _ _ _ _ _ _ _ => F
              refine z_mkF F ?_
              clear F
              intro T1 s₁₅ H₇ le₇ hT1 F
              have g₇ := g₆.up le₇
              clear g₆
              repeat ktr_rel
              rename Fz _ _ _ _ _ _ _ _ _ => F
              refine coverage_spec (ns := [1]) g₇ F.le (hA.deeper.less (by omega)) ⟨T1, _, rfl, ⟨0, hT1⟩, .cons _ _ .nil⟩ (by simp) (by simp) ?_
              intro x1 H₈ s₁₆ st1 hc1
              replace F := F.next st1
              have g₈ := g₇.up st1.le
              clear g₇
              repeat ktr_rel
              rename Fz _ _ _ _ _ _ _ _ _ => F
              refine z_mkF F ?_
              clear F
              intro T2 s₁₇ H₉ le₉ hT2 F
              have g₉ := g₈.up le₉
              clear g₈
              repeat ktr_rel
              rename Fz _ _ _ _ _ _ _ _ _ => F
              refine coverage_spec (ns := [2, 3]) g₉ F.le (hA.deeper.less (by omega)) ⟨T2, _, rfl, ⟨0, hT2⟩, .cons _ _ (.cons _ _ .nil)⟩ (by simp) (by simp) ?_
              intro x2 H₁₀ s₁₈ st2 hc2
              replace F := F.next st2
              have g₁₀ := g₉.up st2.le
              clear g₉
              repeat ktr_rel
              rename Fz _ _ _ _ _ _ _ _ _ => F
              refine z_mkF F ?_
              clear F
              intro T3 s₁₉ H₁₁ le₁₁ hT3 F
              have g₁₁ := g₁₀.up le₁₁
              clear g₁₀
              have hc1' := CovAt.up (le₉.trans (st2.le.trans le₁₁)) hc1
              have hc2' := CovAt.up le₁₁ hc2
              clear hc1 hc2
              repeat ktr_rel
              rename Fz _ _ _ _ _ _ _ _ _ => F
              refine cover_tests_spec (vs := [.ref x1, .ref x2]) g₁₁ F.le (hA.deeper.less (by omega)) ⟨0, hT3⟩ (by simp) ?_
              intro T4 ws H₁₂ s₂₀ st3 hT4 hws
              replace F := F.next st3
              have g₁₂ := g₁₁.up st3.le
              clear g₁₁
              have hc1 := CovAt.up st3.le hc1'
              have hc2 := CovAt.up st3.le hc2'
              clear hc1' hc2'
              obtain ⟨w1, wr, rfl, hw1, hwr⟩ := hws.cons_inv
              obtain ⟨w2, rfl, hw2⟩ := hwr.one
              have le6c : Le _ H₁₂ := le₇.trans (st1.le.trans (le₉.trans (st2.le.trans (le₁₁.trans st3.le))))
              repeat ktr_rel
              rename Fz _ _ _ _ _ _ _ _ _ => F
              refine ready_tuple hA.hh F (items := [w1, w2].toArray) hT4.isTup ⟨by intro n c h; simp at h, by simp⟩ (by rw [sizeLine_eq]; exact Nat.le_of_ble_eq_true rfl)
                (fun i zs H' ms' => ms' = [(P, o')] ∧ All2 (CovRow H') zs ([[1], [2, 3]].take i)) ⟨rfl, .nil⟩ ?_ ?_
              · rintro i v zs H' ms' s₂₁ C mC E' hi hv ⟨rfl, hz⟩ le₁₃ e3 F
                have g₁₃ := g₁₂.up le₁₃
                clear g₁₂
                obtain ⟨x, ns, hvt, hcv, hns⟩ : ∃ x ns, TagV "cover" H₁₂ v (.ref x) ∧ CovAt H₁₂ x ns ∧ ([[1], [2, 3]] : List (List Int))[i]? = some ns := by
                  have hi2 : i = 0 ∨ i = 1 := by simp at hi; omega
                  rcases hi2 with rfl | rfl
                  · have : w1 = v := by simpa using hv
                    subst this
                    exact ⟨x1, [1], hw1, hc1, rfl⟩
                  · have : w2 = v := by simpa using hv
                    subst this
                    exact ⟨x2, [2, 3], hw2, hc2, rfl⟩
                obtain ⟨Tv, tt, rfl, hTv⟩ := TagV.up le₁₃ hvt
                have hcv' := CovAt.up le₁₃ hcv
                have hcv2 := hcv'
                obtain ⟨ac, Tc, vc, Ic, hgc, ⟨r1, r2, r3⟩, hTc, hic⟩ := hcv2
                repeat ktr_rel
                rename Fz _ _ _ _ _ _ _ _ _ => F
                refine' callWith_K0 (K := hd.heap_1 w.params) (g₁₃.k.keeps F.le) ?k1 ?_
                (case k1 => k_is)
                refine told_spec g₁₃ F.le (hA.deeper.less (by omega)) hcv' ?_
                intro T6 vs6 s₂₂ st hT6 hi6
                replace F := F.next st
                repeat ktr_rel
                rename Fz _ _ _ _ _ _ _ _ _ => F
                refine z_mkF F ?_
                clear F
                intro T7 s₂₃ H₁₄ le₁₄ hT7 F
                repeat ktr_rel
                refine ⟨H₁₄, _, F, rfl, rfl, ?_⟩
                rw [List.take_add_one, hns]
                exact (hz.mono fun _ _ => CovRow.up le₁₄).snoc ⟨T7, T6, tt, vs6, rfl, hT7, hT6.up le₁₄, hi6⟩
              · rintro D5 C zs H' ms' nn5 co mC s₂₁ hD5 hC ⟨rfl, hz⟩ le₁₃ - F hN
                refine ⟨mC, hN, fun h' hs => ?_⟩
                replace F := F.endC hC hs
                have g₁₃ := g₁₂.up le₁₃
                clear g₁₂
                have hz : All2 (CovRow H') zs [[1], [2, 3]] := hz
                obtain ⟨z1, zr', rfl, hz1, hzr'⟩ := hz.cons_inv
                obtain ⟨z2, rfl, hz2⟩ := hzr'.one
                repeat ktr_rel
                rename Fz _ _ _ _ _ _ _ _ _ => F
                refine z_mkF F ?_
                clear F
                intro Ta s₂₂ H₁₄ le₁₄ hTa F
                have g₁₄ := g₁₃.up le₁₄
                clear g₁₃
                repeat ktr_rel
                rename Fz _ _ _ _ _ _ _ _ _ => F
                refine z_mkF F ?_
                clear F
                intro Tb s₂₃ H₁₅ le₁₅ hTb F
                have g₁₅ := g₁₄.up le₁₅
                clear g₁₄
                repeat ktr_rel
                rename Fz _ _ _ _ _ _ _ _ _ => F
                refine z_mkF F ?_
                clear F
                intro Tc s₂₄ H₁₆ le₁₆ hTc F
                have g₁₆ := g₁₅.up le₁₆
                clear g₁₅
                repeat ktr_rel
                rename Fz _ _ _ _ _ _ _ _ _ => F
                refine z_mkF F ?_
                clear F
                intro Td s₂₅ H₁₇ le₁₇ hTd F
                have g₁₇ := g₁₆.up le₁₇
                clear g₁₆
                have r1 : CovRow H₁₇ (.ref Tb) [1] := ⟨Tb, Ta, _, _, rfl, le₁₇ _ _ (le₁₆ _ _ hTb), le₁₇ _ _ (le₁₆ _ _ (le₁₅ _ _ hTa)), .cons _ _ .nil⟩
                have r2 : CovRow H₁₇ (.ref Td) [2, 3] := ⟨Td, Tc, _, _, rfl, hTd, le₁₇ _ _ hTc, .cons _ _ (.cons _ _ .nil)⟩
                have le47 := le₁₄.trans (le₁₅.trans (le₁₆.trans le₁₇))
                have q1 := CovRow.up le47 hz1
                have q2 := CovRow.up le47 hz2
                repeat ktr_rel
                rename Fz _ _ _ _ _ _ _ _ _ => F
                refine z_mk F ?_
                clear F
                intro De s₂₆ hDe F
                refine ne_dataH (da := .list [.tuple [.str "cover", .tuple [.int 1]], .tuple [.str "cover", .tuple [.int 2, .int 3]]]) (db := .list [.tuple [.str "cover", .tuple [.int 1]], .tuple [.str "cover", .tuple [.int 2, .int 3]]])
                  (.list F.m1 rfl rfl (.cons (CovRow.up F.le q1).reads (.cons (CovRow.up F.le q2).reads .nil))) (.list F.m0 rfl rfl (.cons (CovRow.up F.le r1).reads (.cons (CovRow.up F.le r2).reads .nil))) (by decide +kernel) (by decide +kernel) hA.deeper.room64 ?_
                rw [show PyData.eqv (.list [.tuple [.str "cover", .tuple [.int 1]], .tuple [.str "cover", .tuple [.int 2, .int 3]]]) (.list [.tuple [.str "cover", .tuple [.int 1]], .tuple [.str "cover", .tuple [.int 2, .int 3]]]) = true by decide +kernel]
                replace F := F.forget (pre := [])
                replace F := F.forget (pre := [])
                repeat ktr_rel
                rename Fz _ _ _ _ _ _ _ _ _ => F
                refine z_mkF F ?_
                clear F
                intro l8 s₂₇ H₁₈ le₁₈ hl8 F
                have g₁₈ := g₁₇.up le₁₈
                clear g₁₇
                repeat ktr_rel
                rename Fz _ _ _ _ _ _ _ _ _ => F
                refine glyph_tests_spec g₁₈ F.le (hA.deeper.less (by omega)) ⟨0, hl8⟩ (by simp) ?_
                intro T8 ws8 H₁₉ s₂₈ st8 hT8 hws8
                obtain ⟨w81, wr8, rfl, hw81, hwr8⟩ := hws8.cons_inv
                obtain ⟨w82, wr9, rfl, hw82, hwr9⟩ := hwr8.cons_inv
                obtain ⟨w83, rfl, hw83⟩ := hwr9.one
                replace F := F.next st8
                have g₁₉ := g₁₈.up st8.le
                clear g₁₈
                repeat ktr_rel
                rename Fz _ _ _ _ _ _ _ _ _ => F
                refine z_listT F (hT8.up F.le) (by simp) ?_
                clear F
                intro D9 n9 s₂₉ hD9 F
                repeat ktr_rel
                rename Fz _ _ _ _ _ _ _ _ _ => F
                refine z_mkF F ?_
                clear F
                intro Ta s₂₂ H₂₀ le₂₀ hTa F
                have g₂₀ := g₁₉.up le₂₀
                clear g₁₉
                repeat ktr_rel
                rename Fz _ _ _ _ _ _ _ _ _ => F
                refine z_mkF F ?_
                clear F
                intro Tb s₂₃ H₂₁ le₂₁ hTb F
                have g₂₁ := g₂₀.up le₂₁
                clear g₂₀
                repeat ktr_rel
                rename Fz _ _ _ _ _ _ _ _ _ => F
                refine z_mkF F ?_
                clear F
                intro Tc s₂₄ H₂₂ le₂₂ hTc F
                have g₂₂ := g₂₁.up le₂₂
                clear g₂₁
                repeat ktr_rel
                rename Fz _ _ _ _ _ _ _ _ _ => F
                refine z_mk F ?_
                clear F
                intro Dd s₂₅ hDd F
                have m1 : TagV "glyph" H₂₂ (.ref Ta) (.int 4 _) := ⟨Ta, _, rfl, le₂₂ _ _ (le₂₁ _ _ hTa)⟩
                have m2 : TagV "glyph" H₂₂ (.ref Tb) (.int 5 _) := ⟨Tb, _, rfl, le₂₂ _ _ hTb⟩
                have m3 : TagV "glyph" H₂₂ (.ref Tc) (.int 4 _) := ⟨Tc, _, rfl, hTc⟩
                have le92 := le₂₀.trans (le₂₁.trans le₂₂)
                have q81 := TagV.up le92 hw81
                have q82 := TagV.up le92 hw82
                have q83 := TagV.up le92 hw83
                refine eq_dataH (da := .list [.tuple [.str "glyph", .int 4], .tuple [.str "glyph", .int 5], .tuple [.str "glyph", .int 4]]) (db := .list [.tuple [.str "glyph", .int 4], .tuple [.str "glyph", .int 5], .tuple [.str "glyph", .int 4]])
                  (.list F.m1 rfl rfl (.cons (TagV.up F.le q81).reads (.cons (TagV.up F.le q82).reads (.cons (TagV.up F.le q83).reads .nil)))) (.list F.m0 rfl rfl (.cons (TagV.up F.le m1).reads (.cons (TagV.up F.le m2).reads (.cons (TagV.up F.le m3).reads .nil)))) (by decide +kernel) (by decide +kernel) hA.deeper.room64 ?_
                rw [show PyData.eqv (.list [.tuple [.str "glyph", .int 4], .tuple [.str "glyph", .int 5], .tuple [.str "glyph", .int 4]]) (.list [.tuple [.str "glyph", .int 4], .tuple [.str "glyph", .int 5], .tuple [.str "glyph", .int 4]]) = true by decide +kernel]
                replace F := F.forget (pre := [])
                replace F := F.forget (pre := [])
                have lez := le6c.trans (le₁₃.trans (le47.trans (le₁₈.trans (st8.le.trans le92))))
                repeat ktr_rel
                rename Fz _ _ _ _ _ _ _ _ _ => F
                refine hold_spec g₂₂ F.le (hA.deeper.less (by omega)) (hLR6.up lez) (hps6.mono fun _ _ => PieceAt.up lez) (hLD6.up lez) hus (fun j hj => by rw [hlen]; exact hsn j hj) (by rw [hlen]; omega) hr5 fun s₃₀ hst => ?_
                obtain ⟨H₂₃, st9⟩ := hst
                replace F := F.next st9
                repeat ktr_rel
                refine PyProof.Rows.eq_bool ?_
                rw [beq_self_eq_true]
                rename Fz _ _ _ _ _ _ _ _ _ => F
                repeat ktr_rel
                exact h _ ⟨_, F.st⟩
end hp

-- part PQ
/-! the plain law -/
theorem scan_congr {good good' bad bad' : Nat → Bool} : ∀ {l : List Nat}, (∀ j ∈ l, good j = good' j) → (∀ j ∈ l, bad j = bad' j) → scanP good bad l = scanP good' bad' l
  | [], _, _ => rfl
  | j :: r, hg, hb => by
    unfold scanP
    rw [hg j List.mem_cons_self, hb j List.mem_cons_self, scan_congr (fun x hx => hg x (List.mem_cons_of_mem _ hx)) (fun x hx => hb x (List.mem_cons_of_mem _ hx))]
theorem scan_split {good bad : Nat → Bool} : ∀ {l : List Nat} {j : Nat} {r : List Nat}, scanP good bad l = some (j, r) → ∃ pre, l = pre ++ j :: r
  | [], j, r, h => by simp [scanP] at h
  | a :: l, j, r, h => by
    unfold scanP at h
    split at h
    · cases h; exact ⟨[], rfl⟩
    · split at h
      · cases h
      · obtain ⟨pre, e⟩ := scan_split h
        exact ⟨a :: pre, by rw [e]; rfl⟩
theorem sub_rest {R : Nat → Nat → Bool} (tr : ∀ a b c, R a b = true → R b c = true → R a c = true) (ir : ∀ a, R a a = false) {L : List Nat} (hL : L.Pairwise fun x y => R x y = true) {c j : Nat} {pre r : List Nat} (h : L.filter (R c) = pre ++ j :: r) : r = L.filter (R j) := by
  have hcj : R c j = true := by
    have : j ∈ L.filter (R c) := by rw [h]; simp
    exact (List.mem_filter.mp this).2
  have e1 : L.filter (R j) = (L.filter (R c)).filter (R j) := by
    rw [List.filter_filter]
    refine List.filter_congr fun x _ => ?_
    cases q : R j x with
    | false => simp
    | true => simp [tr c j x hcj q]
  have hp : (pre ++ j :: r).Pairwise fun x y => R x y = true := by rw [← h]; exact hL.filter _
  obtain ⟨_, p2, p3⟩ := List.pairwise_append.mp hp
  obtain ⟨p4, _⟩ := List.pairwise_cons.mp p2
  rw [e1, h, List.filter_append, List.filter_cons]
  have z1 : pre.filter (R j) = [] := List.filter_eq_nil_iff.mpr fun x hx q => by
    have := tr j x j q (p3 x hx j (by simp))
    rw [ir] at this; cases this
  have z2 : r.filter (R j) = r := List.filter_eq_self.mpr fun x hx => p4 x hx
  rw [z1, z2, ir]
  simp

theorem range_drop : ∀ (n k : Nat), (List.range n).drop k = (List.range n).filter fun x => decide (k ≤ x)
  | 0, k => by simp
  | n + 1, k => by
    rw [List.range_succ, List.filter_append, List.drop_append, range_drop n k, List.length_range]
    congr 1
    by_cases h : k ≤ n
    · rw [show k - n = 0 by omega]; simp [h]
    · rw [List.drop_of_length_le (by simp; omega)]; simp; omega
theorem range_low : ∀ (n a : Nat), a ≤ n → ((List.range n).filter fun x => decide (x < a)) = List.range a
  | 0, a, h => by rw [show a = 0 by omega]; rfl
  | n + 1, a, h => by
    rw [List.range_succ, List.filter_append]
    by_cases q : a ≤ n
    · rw [range_low n a q]; simp; omega
    · have : a = n + 1 := by omega
      subst this
      rw [List.range_succ]
      congr 1
      · exact List.filter_eq_self.mpr fun x hx => decide_eq_true (by have := List.mem_range.mp hx; omega)
      · simp
def dirL (n : Nat) (up : Bool) (ig : Nat → Bool) : List Nat := if up then (List.range n).filter fun j => !ig j else ((List.range n).filter fun j => !ig j).reverse
def dirR (up : Bool) (a b : Nat) : Bool := if up then decide (a < b) else decide (b < a)
def stepOf (up : Bool) : Int := if up then 1 else -1
theorem dirR_tr {up : Bool} : ∀ a b c, dirR up a b = true → dirR up b c = true → dirR up a c = true := by
  cases up <;> simp [dirR] <;> omega
theorem dirR_ir {up : Bool} : ∀ a, dirR up a a = false := by
  cases up <;> simp [dirR]
theorem dirL_pw {n : Nat} {up : Bool} {ig : Nat → Bool} : (dirL n up ig).Pairwise fun x y => dirR up x y = true := by
  have base : ((List.range n).filter fun j => !ig j).Pairwise fun x y => x < y := (List.pairwise_lt_range).filter _
  cases up with
  | true => exact base.imp fun h => decide_eq_true h
  | false =>
    show (((List.range n).filter fun j => !ig j).reverse).Pairwise _
    rw [List.pairwise_reverse]
    exact base.imp fun h => decide_eq_true h
theorem dir_rem {n : Nat} {up : Bool} {ig : Nat → Bool} {a : Nat} (ha : a < n) : (remL n (stepOf up) ((a : Int) + stepOf up)).filter (fun j => !ig j) = (dirL n up ig).filter (dirR up a) := by
  cases up with
  | true =>
    show (remL n 1 ((a : Int) + 1)).filter _ = ((List.range n).filter fun j => !ig j).filter (fun b => decide (a < b))
    unfold remL
    rw [if_pos rfl, show ((a : Int) + 1).toNat = a + 1 by omega, range_drop, List.filter_filter, List.filter_filter]
    refine List.filter_congr fun x _ => ?_
    rw [Bool.and_comm]
    rfl
  | false =>
    show (remL n (-1) ((a : Int) + -1)).filter _ = (((List.range n).filter fun j => !ig j).reverse).filter (fun b => decide (b < a))
    unfold remL
    rw [if_neg (by decide), show ((a : Int) + -1 + 1).toNat = a by omega, ← range_low n a (by omega), List.filter_reverse, List.filter_reverse, List.filter_filter, List.filter_filter]
    congr 1
    refine List.filter_congr fun x _ => ?_
    rw [Bool.and_comm]

theorem dirL_lt {n : Nat} {up : Bool} {ig : Nat → Bool} {j : Nat} (h : j ∈ dirL n up ig) : j < n := by
  unfold dirL at h
  split at h
  · exact List.mem_range.mp (List.mem_filter.mp h).1
  · exact List.mem_range.mp (List.mem_filter.mp (List.mem_reverse.mp h)).1

theorem nxt_scan {ds : List InfoD} {f : Int → Int} {flag mask : Int} {ks : List Str} {inp up : Bool} {pl : List Int} {c : Nat} (hds : ∀ d ∈ ds, DOk d) (hc : c < ds.length) :
    nxtP ⟨ds, fin6 f, flag, mask⟩ (stepOf up) ks inp pl c = (scanP (fun j => decide (gAt ds j ∈ pl) && (Builtin.bitAnd (mAt ds j) mask != 0 || !inp)) (badK ds ks) ((dirL ds.length up fun j => ignP flag f (gAt ds j)).filter (dirR up c))).map (·.1) := by
  unfold nxtP
  rw [walk_scan]
  have e : ∀ j ∈ remL ds.length (stepOf up) ((c : Int) + stepOf up), (!ignP flag (fin6 f) (gAt ds j)) = !ignP flag f (gAt ds j) := fun j hj => by
    have hj' : j < ds.length := by
      cases up
      · exact remL_mem (.inr rfl) (by show (c : Int) + -1 ≤ _; omega) hj (fun _ => by show (c : Int) + -1 < _; omega)
      · exact remL_mem (.inl rfl) (by show (c : Int) + 1 ≤ _; omega) hj (fun h => by cases h)
    obtain ⟨ag, _, _⟩ := at_info hj'
    have := (hds _ (List.getElem_mem hj')).1
    unfold ignP fin6
    rw [ag, if_pos this]
  rw [← dir_rem hc]
  show Option.map _ (scanP _ _ ((remL ds.length (stepOf up) ((c : Int) + stepOf up)).filter fun j => !ignP flag (fin6 f) (gAt ds j))) = _
  rw [List.filter_congr e]

theorem ways_chain {ds : List InfoD} {f : Int → Int} {flag mask mask' : Int} {ks : List Str} {inp up : Bool} (hds : ∀ d ∈ ds, DOk d)
    (hgood : ∀ pl j, j < ds.length → goodP ds pl mask' j = (decide (gAt ds j ∈ pl) && (Builtin.bitAnd (mAt ds j) mask != 0 || !inp))) : ∀ (pls : List (List Int)) (c : Nat), c < ds.length →
    waysP ds ks mask' pls ((dirL ds.length up fun j => ignP flag f (gAt ds j)).filter (dirR up c)) = match chainP (nxtP ⟨ds, fin6 f, flag, mask⟩ (stepOf up) ks inp) pls c with | none => [] | some l => [l]
  | [], c, _ => rfl
  | pl :: r, c, hc => by
    rw [ways_scan]
    have hg : scanP (goodP ds pl mask') (badK ds ks) ((dirL ds.length up fun j => ignP flag f (gAt ds j)).filter (dirR up c)) = scanP (fun j => decide (gAt ds j ∈ pl) && (Builtin.bitAnd (mAt ds j) mask != 0 || !inp)) (badK ds ks) ((dirL ds.length up fun j => ignP flag f (gAt ds j)).filter (dirR up c)) :=
      scan_congr (fun j hj => hgood pl j (dirL_lt (List.mem_filter.mp hj).1)) fun _ _ => rfl
    rw [hg]
    unfold chainP
    rw [nxt_scan hds hc]
    cases hs : scanP (fun j => decide (gAt ds j ∈ pl) && (Builtin.bitAnd (mAt ds j) mask != 0 || !inp)) (badK ds ks) ((dirL ds.length up fun j => ignP flag f (gAt ds j)).filter (dirR up c)) with
    | none => rfl
    | some p =>
      obtain ⟨j, rest⟩ := p
      obtain ⟨pre, e⟩ := scan_split hs
      have hj : j < ds.length := by
        have : j ∈ (dirL ds.length up fun j => ignP flag f (gAt ds j)).filter (dirR up c) := by rw [e]; simp
        exact dirL_lt (List.mem_filter.mp this).1
      have hr := sub_rest dirR_tr dirR_ir dirL_pw e
      show (waysP ds ks mask' r rest).map (j :: ·) = match (match some j with | none => none | some j => (chainP _ r j).map (j :: ·)) with | none => [] | some l => [l]
      rw [hr, ways_chain hds hgood r j hj]
      dsimp only
      cases chainP (nxtP ⟨ds, fin6 f, flag, mask⟩ (stepOf up) ks inp) r j with
      | none => rfl
      | some l => rfl

theorem last_chain (nxt : List Int → Nat → Option Nat) : ∀ (pls : List (List Int)) (c : Nat), lastP nxt pls c = (chainP nxt pls c).map fun l => l.getLast?.getD c
  | [], c => rfl
  | pl :: r, c => by
    unfold lastP chainP
    cases nxt pl c with
    | none => rfl
    | some j =>
      dsimp only
      rw [last_chain nxt r j, Option.map_map]
      congr 1
      funext l
      cases l with
      | nil => rfl
      | cons a l => simp [List.getLast?_cons]

theorem goodIn {ds : List InfoD} {mask : Int} (pl : List Int) (j : Nat) : goodP ds pl mask j = (decide (gAt ds j ∈ pl) && (Builtin.bitAnd (mAt ds j) mask != 0 || !true)) := by
  unfold goodP
  rw [Bool.not_true, Bool.or_false, show pl.any (· == gAt ds j) = decide (gAt ds j ∈ pl) by rw [Bool.eq_iff_iff]; simp]
theorem goodOut {ds : List InfoD} {mask : Int} (hds : ∀ d ∈ ds, DOk d) (pl : List Int) (j : Nat) (hj : j < ds.length) : goodP ds pl 3 j = (decide (gAt ds j ∈ pl) && (Builtin.bitAnd (mAt ds j) mask != 0 || !false)) := by
  unfold goodP
  rw [Bool.not_false, Bool.or_true, show pl.any (· == gAt ds j) = decide (gAt ds j ∈ pl) by rw [Bool.eq_iff_iff]; simp]
  congr 1
  obtain ⟨_, _, am⟩ := at_info hj
  rw [am]
  rcases (hds _ (List.getElem_mem hj)).2.2 with e | e | e <;> rw [e] <;> decide

theorem near_head {ds : List InfoD} {f : Int → Int} {flag : Int} {up : Bool} {a : Nat} (hds : ∀ d ∈ ds, DOk d) (ha : a < ds.length) :
    nearP (fun j => ignP flag (fin6 f) (gAt ds j)) (badK ds kAround) (remL ds.length (stepOf up) ((a : Int) + stepOf up)) = (((dirL ds.length up fun j => ignP flag f (gAt ds j)).filter (dirR up a)).filter fun j => kAt ds j == "").head? := by
  have e : ∀ j ∈ remL ds.length (stepOf up) ((a : Int) + stepOf up), (!ignP flag (fin6 f) (gAt ds j) && badK ds kAround j) = ((!ignP flag f (gAt ds j)) && (kAt ds j == "")) := fun j hj => by
    have hj' : j < ds.length := by
      cases up
      · exact remL_mem (.inr rfl) (by show (a : Int) + -1 ≤ _; omega) hj (fun _ => by show (a : Int) + -1 < _; omega)
      · exact remL_mem (.inl rfl) (by show (a : Int) + 1 ≤ _; omega) hj (fun h => by cases h)
    obtain ⟨ag, ak, _⟩ := at_info hj'
    have hd := hds _ (List.getElem_mem hj')
    have h1 := hd.1
    have e1 : ignP flag (fin6 f) (gAt ds j) = ignP flag f (gAt ds j) := by
      unfold ignP fin6
      rw [ag, if_pos h1]
    rw [e1]
    congr 1
    unfold badK
    rw [ak]
    rcases hd.2.1 with q | q | q | q <;> rw [q] <;> decide
  rw [← dir_rem ha]
  unfold nearP
  rw [List.filter_filter, List.head?_filter]
  generalize remL ds.length (stepOf up) ((a : Int) + stepOf up) = l at e
  induction l with
  | nil => rfl
  | cons x r ih =>
    rw [List.find?_cons, List.find?_cons, e x List.mem_cons_self, ih fun j hj => e j (List.mem_cons_of_mem _ hj)]
    rw [Bool.and_comm]

theorem fits_all {pl : List Int} (h : PlOk pl) : (([0, 1, 2, 3, 4, 5, 6] : List Int).filter fun g => decide (g ∈ pl)) = pl := by
  refine sorted_uniq ?_ ?_ h.1
  · refine (List.perm_ext_iff_of_nodup ?_ ?_).mpr fun x => ?_
    · exact List.Pairwise.filter _ (show ([0, 1, 2, 3, 4, 5, 6] : List Int).Nodup by decide)
    · exact h.1.imp fun q => by omega
    · rw [List.mem_filter, decide_eq_true_iff]
      refine ⟨fun q => q.2, fun q => ⟨?_, q⟩⟩
      have := h.2.2 x q
      have : x = 0 ∨ x = 1 ∨ x = 2 ∨ x = 3 ∨ x = 4 ∨ x = 5 ∨ x = 6 := by omega
      rcases this with rfl | rfl | rfl | rfl | rfl | rfl | rfl <;> simp
  · refine List.Pairwise.filter _ ?_
    decide

-- part LA
section la
variable {prog : Program} {w : World} {A : Around} {E : Value → Shared → Prop} {s₀ s : Shared} {H₀ H : Heap} {W : List Addr} {env : Env} {m cm : Str → Option Value} {ms : List (Addr × Obj)}

theorem code_forG {target : Expr} {body : List Stmt} {R : Result → Shared → Prop} {I : Addr} {io : Obj} {fp : List Addr} {n : Nat} {P : Nat → Value → Prop} {Stt : Nat → Heap → Prop}
    (J : Nat → Heap → (Str → Option Value) → (Str → Option Value) → List (Addr × Obj) → Prop) (Wk : Walks prog w A I fp [I] n P Stt) (hio : ∀ i h, Stt i h → ∃ o, h.get? I = some o)
    (F : Fz s₀ H₀ W env H m cm (ms ++ [(I, io)]) s) (hI₀ : s₀.heap.get? I = none) (hst : Stt 0 s.heap) (hfp : ∀ b ∈ fp, b = I ∨ ∃ o, H.get? b = some o) (h0 : J 0 H m cm ms)
    (hgo : ∀ i v (s' : Shared) (Q' : Unit → Shared → Prop) (E' : Value → Shared → Prop), Stt i s'.heap → Q' () s' → wpAny (model prog w) A (letOwnedTupleGo target (.ref I) v) Q' E' s')
    (turn : ∀ i v io H m cm ms s E', i < n → P i v → J i H m cm ms → Fz s₀ H₀ W env H m cm (ms ++ [(I, io)]) s →
      wpAny (model prog w) A (assign target env v) (fun _ s₁ => wpAny (model prog w) A (execs body env) (fun f s₂ => match f with
        | .next | .cont => ∃ H' m' cm' ms', Fz s₀ H₀ W env H' m' cm' (ms' ++ [(I, io)]) s₂ ∧ Le H H' ∧ J (i + 1) H' m' cm' ms'
        | .brk => R (.ok .next) s₂
        | .ret v => R (.ok (.ret v)) s₂) E' s₁) E' s)
    (fin : ∀ H m cm ms s, J n H m cm ms → Fz s₀ H₀ W env H m cm ms s → R (.ok .next) s) :
    codeAny (model prog w) A (.forLoop target (.ref I) body [] env) R s := by
  refine codeAny_forLoop_any (fun k s => ∃ i H m cm ms io, i ≤ n ∧ k = n - i ∧ Fz s₀ H₀ W env H m cm (ms ++ [(I, io)]) s ∧ J i H m cm ms ∧ Stt i s.heap ∧ ∀ b ∈ fp, b = I ∨ ∃ o, H.get? b = some o) ?_ n
    ⟨0, H, m, cm, ms, io, Nat.zero_le _, rfl, F, h0, hst, hfp⟩
  rintro k s ⟨i, H, m, cm, ms, io, hi, rfl, F, hJ, hst, hfp⟩
  by_cases hlt : i < n
  · refine Wk.item i s _ _ hlt hst fun v h₁ tk hP hst₁ hk₁ => ?_
    obtain ⟨io', hio'⟩ := hio _ _ hst₁
    have F₁ : Fz s₀ H₀ W env H m cm (ms ++ [(I, io')]) { s with heap := h₁, toks := tk } := F.put (H' := H) ⟨⟨_, _, rfl⟩, fun b o hb e => hk₁ b o hb e, fun b e => ?_, .refl, fun b o e => ?_, fun _ _ e => .inl e⟩ hio'
    · refine hgo (i + 1) v _ _ _ hst₁ ?_
      refine wpAny_mono (turn i v io' H m cm ms _ _ hlt hP hJ F₁) (fun _ s₂ h₂ => wpAny_mono h₂ (fun f s₃ h₃ => ?_) fun _ _ e => e) fun _ _ e => e
      have nx : (∃ H' m' cm' ms', Fz s₀ H₀ W env H' m' cm' (ms' ++ [(I, io')]) s₃ ∧ Le H H' ∧ J (i + 1) H' m' cm' ms') → ∃ k, k < n - i ∧ ∃ i H m cm ms io, i ≤ n ∧ k = n - i ∧ Fz s₀ H₀ W env H m cm (ms ++ [(I, io)]) s₃ ∧ J i H m cm ms ∧ Stt i s₃.heap ∧ ∀ b ∈ fp, b = I ∨ ∃ o, H.get? b = some o := by
        rintro ⟨H', m', cm', ms', F₃, hle, hJ₃⟩
        have hst₂ : Stt (i + 1) s₃.heap := Wk.frame _ _ _ hst₁ fun b hb o e => by
          rcases hfp b hb with rfl | ⟨o', e'⟩
          · have := F₃.ml (b, io') (by simp)
            have e'' : o = io' := Option.some.inj (e.symm.trans hio')
            rw [e'']; exact this
          · have h1 := F₁.le _ _ e'
            have e'' : o = o' := Option.some.inj (e.symm.trans h1)
            rw [e'']; exact F₃.le _ _ (hle _ _ e')
        exact ⟨n - (i + 1), by omega, i + 1, H', m', cm', ms', io', hlt, rfl, F₃, hJ₃, hst₂, fun b hb => (hfp b hb).imp_right fun ⟨o, e⟩ => ⟨o, hle _ _ e⟩⟩
      cases f with
      | next => exact nx h₃
      | cont => exact nx h₃
      | brk => exact h₃
      | ret v => exact h₃
    · rcases get_none_or (h := s.heap) b with q | ⟨o, q⟩
      · exact q
      · by_cases hb : b = I
        · rw [hb, show ({ s with heap := h₁, toks := tk } : Shared).heap.get? I = some io' from hio'] at e; cases e
        · exact absurd ((hk₁ b o (by simpa using hb) q).symm.trans e) (by simp)
    · refine hk₁ b o (fun hb => ?_) (F.le b o e)
      rw [List.mem_singleton.mp hb, F.off I Fz.mem_muts] at e; cases e
  · have hin : i = n := by omega
    subst hin
    refine Wk.done s _ _ hst fun h₁ tk hk₁ => wpAny_execs_nil ?_
    have G := F.spoil (tk := tk) hI₀ hk₁
    rw [List.append_nil] at G
    exact fin H m cm ms _ hJ G

def ForTurnG (prog : Program) (w : World) (A : Around) (s₀ : Shared) (H₀ : Heap) (W : List Addr) (env : Env) (target : Expr) (body : List Stmt) (R : Result → Shared → Prop) (n : Nat) (P : Nat → Value → Prop)
    (J : Nat → Heap → (Str → Option Value) → (Str → Option Value) → List (Addr × Obj) → Prop) : Prop :=
  ∀ i v I io H m cm ms s E', i < n → P i v → J i H m cm ms → Fz s₀ H₀ W env H m cm (ms ++ [(I, io)]) s →
      ∀ K : Flow → Shared → Prop, Hid (fun f s₂ => match f with
        | .next | .cont => ∃ H' m' cm' ms', Fz s₀ H₀ W env H' m' cm' (ms' ++ [(I, io)]) s₂ ∧ Le H H' ∧ J (i + 1) H' m' cm' ms'
        | .brk => R (.ok .next) s₂
        | .ret v => R (.ok (.ret v)) s₂) K → wpAny (model prog w) A (assign target env v) (fun _ s₁ => wpAny (model prog w) A (execs body env) K E' s₁) E' s

theorem for_rangeA {x : Str} {px : Pos} {body : List Stmt} {R : Result → Shared → Prop} {r : Addr} {a : Int} {n : Nat} {t u v : Tok} (hh : A.handled = none) (F : Fz s₀ H₀ W env H m cm ms s) (hr : IsRange s.heap r a (a + n) 1 t u v)
    (ha : -(2 ^ 40) ≤ a ∧ a ≤ 2 ^ 40) (hsz : n ≤ 1000)
    (J : Nat → Heap → (Str → Option Value) → (Str → Option Value) → List (Addr × Obj) → Prop) (h0 : J 0 H m cm ms) (turn : ForTurnG prog w A s₀ H₀ W env (.Name x px) body R n (fun i v => ∃ t, v = .int (a + i) t) J)
    (fin : ∀ H m cm ms s, J n H m cm ms → Fz s₀ H₀ W env H m cm ms s → R (.ok .next) s) :
    wpAny (model prog w) A (pyIter (.ref r)) (fun it s₂ => codeAny (model prog w) A (.forLoop (.Name x px) it body [] env) R s₂) E s := by
  have small : Builtin.Range.small a (a + n) 1 = true := small_one (by omega) (by omega) (by omega) (by omega)
  refine wpAny_pyIter_range hr small ?_
  obtain ⟨G, n0⟩ := F.push { cls := .type "range_iterator", data := .fields #[rawInt a, rawInt (Builtin.Range.rangeSize a (a + n) 1), rawInt 1] }
  have hs : Builtin.Range.rangeSize a (a + n) 1 = n := by rw [rangeSize_one]; split <;> omega
  refine code_forG J (Walks.range hh _ a 1 n) (fun i h x => ⟨_, x⟩) G.rot n0 ?_ (fun b hb => .inl (by simpa using hb)) h0 (fun i v s' Q' E' _ h => wpAny_pure h) ?_ fin
  · have := Heap.get?_push_size s.heap (o := { cls := .type "range_iterator", data := .fields #[rawInt a, rawInt (Builtin.Range.rangeSize a (a + n) 1), rawInt 1] }) rfl
    rw [hs] at this
    simpa [hs] using this
  · rintro i v io H m cm ms s E' hi ⟨t, rfl⟩
    exact fun h3 F => turn i _ _ io H m cm ms s E' hi ⟨t, by simp⟩ h3 F _ Hid.self
theorem for_rangeG {x : Str} {px : Pos} {body : List Stmt} {R : Result → Shared → Prop} {r : Addr} {n : Nat} {t u v : Tok} (hh : A.handled = none) (F : Fz s₀ H₀ W env H m cm ((r, rangeOf n u t v) :: ms) s)
    (hsz : n ≤ 1000)
    (J : Nat → Heap → (Str → Option Value) → (Str → Option Value) → List (Addr × Obj) → Prop) (h0 : J 0 H m cm ms) (turn : ForTurnG prog w A s₀ H₀ W env (.Name x px) body R n (fun i v => ∃ t, v = .int (i : Int) t) J)
    (fin : ∀ H m cm ms s, J n H m cm ms → Fz s₀ H₀ W env H m cm ms s → R (.ok .next) s) :
    wpAny (model prog w) A (pyIter (.ref r)) (fun it s₂ => codeAny (model prog w) A (.forLoop (.Name x px) it body [] env) R s₂) E s := by
  have hr : IsRange s.heap r 0 (0 + (n : Int)) 1 u t v := by rw [Int.zero_add]; exact F.m0
  refine for_rangeA hh (F.forget (pre := [])) hr (by decide) hsz J h0 ?_ fin
  rintro i v I io H' m' cm' ms' s' E' hi ⟨t', e⟩
  rw [Int.zero_add] at e
  exact turn i v I io H' m' cm' ms' s' E' hi ⟨t', e⟩

theorem for_tupleG {target : Expr} {body : List Stmt} {R : Result → Shared → Prop} {l : Addr} {items : Array Value} (hh : A.handled = none) (F : Fz s₀ H₀ W env H m cm ms s) (hl : H.IsTuple l items)
    (J : Nat → Heap → (Str → Option Value) → (Str → Option Value) → List (Addr × Obj) → Prop) (h0 : J 0 H m cm ms) (turn : ForTurnG prog w A s₀ H₀ W env target body R items.size (fun i v => items[i]? = some v) J)
    (fin : ∀ H m cm ms s, J items.size H m cm ms → Fz s₀ H₀ W env H m cm ms s → R (.ok .next) s) :
    wpAny (model prog w) A (pyIter (.ref l)) (fun it s₂ => codeAny (model prog w) A (.forLoop target it body [] env) R s₂) E s := by
  have hl' : s.heap.IsTuple l items := hl.at fun o e => F.le _ _ e
  refine wpAny_pyIter_tuple hl' ?_
  obtain ⟨G, n0⟩ := F.push { cls := .type "tuple_iterator", data := .fields #[.ref l, .int 0 0] }
  obtain ⟨ol, hol, _⟩ := id hl
  have hne : l ≠ s.heap.objs.size := Nat.ne_of_lt (Heap.lt_size (F.le _ _ hol))
  exact code_forG J (Walks.tuple hh _ l hne items) (fun i h x => let ⟨o, ho, _⟩ := x.1; ⟨o, ho⟩) G.rot n0 ⟨⟨_, Heap.get?_push_size _ rfl, rfl, rfl⟩, hl'.push _⟩
    (fun b hb => by simp at hb; rcases hb with rfl | rfl; exact .inl rfl; exact .inr ⟨_, hol⟩) h0 (fun i v s' Q' E' x h => letGo_tupleiter x.1 h) (fun i v io H m cm ms s E' h1 h2 h3 F => turn i v _ io H m cm ms s E' h1 h2 h3 F _ Hid.self) fin

theorem Fz.ext {h' : Heap} (F : Fz s₀ H₀ W env H m cm ms s) (x : Heap.ExtBut s.heap.objs.size s.heap h') : Fz s₀ H₀ W env H m cm ms { s with heap := h' } := by
  have k : ∀ b o, s.heap.get? b = some o → h'.get? b = some o := fun b o e => x b o (Nat.ne_of_lt (Heap.lt_size e)) e
  refine F.next (H' := H) ⟨⟨_, _, rfl⟩, fun b o _ e => k b o e, fun b e => ?_, .refl, fun b o e => k b o (F.le b o e), fun _ _ e => .inl e⟩
  rcases get_none_or (h := s.heap) b with q | ⟨o, q⟩
  · exact q
  · exact absurd ((k b o q).symm.trans e) (by simp)

theorem z_unpack {elts : List Expr} {x1 : Nat} {pos : Pos} {T : Addr} {vs : List Value} {Q : Unit → Shared → Prop} (hh : A.handled = none) (F : Fz s₀ H₀ W env H m cm ms s) (ht : TA s.heap T vs)
    (hn : (assignEach elts env).length = vs.length) (hstar : (assignEach elts env).findIdx? (·.1) = none)
    (h : ∀ s', Fz s₀ H₀ W env H m cm ms s' → wpAny (model prog w) A (assignInOrder ((assignEach elts env).map (·.2)) vs) Q E s') : wpAny (model prog w) A (assign (.Tuple elts x1 pos) env (.ref T)) Q E s :=
  wpAny_assign_Tuple hh (items := vs.toArray) ⟨_, ht, rfl, 0, rfl⟩ (by simpa using hn) hstar fun h' x => h _ (F.ext x)
theorem z_unpack2 {e1 e2 : Expr} {x1 : Nat} {pos : Pos} {T : Addr} {v1 v2 : Value} {Q : Unit → Shared → Prop} (hh : A.handled = none) (F : Fz s₀ H₀ W env H m cm ms s) (ht : TA s.heap T [v1, v2])
    (hs : assignEach [e1, e2] env = [(false, assign e1 env), (false, assign e2 env)])
    (h : ∀ s', Fz s₀ H₀ W env H m cm ms s' → wpAny (model prog w) A (assign e1 env v1) (fun _ s₁ => wpAny (model prog w) A (assign e2 env v2) Q E s₁) E s') : wpAny (model prog w) A (assign (.Tuple [e1, e2] x1 pos) env (.ref T)) Q E s := by
  refine z_unpack hh F ht (by rw [hs]; rfl) (by rw [hs]; rfl) fun s' F' => ?_
  rw [hs]
  exact wpAny_assignInOrder_more (wpAny_mono (h s' F') (fun _ _ x => wpAny_assignInOrder_more (wpAny_mono x (fun _ _ y => wpAny_assignInOrder_none y) fun _ _ y => y)) fun _ _ y => y)

theorem z_sliceR {value slice : Expr} {l sl : Addr} {items : List Value} {vk : Value} {Q : Value → Shared → Prop} (hl : s.heap.IsList l items.toArray) (hsl : s.heap.get? sl = some (sliceOf .none .none vk)) (pk : IsPart vk (some (-1)))
    (hsz : items.length ≤ 1000) (h : Mk (listOf items.reverse.toArray 0) Q s)
    (hs : subscripted slice false (.ref l) (.ref sl) = operate [.ref l, .ref sl] (getItem (.ref l) (.ref sl)) := by with_unfolding_all rfl) :
    wpAny (model prog w) A (subscriptTail value slice (.ref l) (.ref sl)) Q E s := by
  refine tail_any hl.typeIs list_getitem_lookup (wpAny_getItem_list_slice hl ⟨_, hsl, rfl, rfl⟩ .none .none pk (by decide) ?_ (by rw [List.size_toArray, sizeLine_eq]; omega)) hs
  rw [krv_pick]
  exact h
end la

-- part LB
/-! the law in parts -/
section lb
variable {prog : Program} {w : World} {H H' : Heap}
theorem LookAt.up {x : Addr} {flag : Int} (k : Le H H') : LookAt H x flag → LookAt H' x flag := fun ⟨a, t, I, e⟩ => ⟨a, t, I.up k, e⟩
theorem ClassesAt.up {d : Addr} {f : Int → Int} (k : Le H H') : ClassesAt prog w H d f → ClassesAt prog w H' d f := fun ⟨e, kvs, hd, r⟩ => ⟨e, kvs, dic_up k hd, r⟩
theorem GdefAt.up {x : Addr} {f : Int → Int} (k : Le H H') : GdefAt prog w H x f → GdefAt prog w H' x f := fun ⟨a, c, I, e1, e2, hc⟩ => ⟨a, c, I.up k, e1, e2, ClsAt.up k hc⟩
theorem SceneAt.up {x : Addr} {sc : Sc} (k : Le H H') : SceneAt prog w H x sc → SceneAt prog w H' x sc := fun ⟨⟨a, b, gd, lk, t, I, hb, hg, hl, hm, B, G, L⟩, c, f⟩ =>
  ⟨⟨a, b, gd, lk, t, I.up k, hb, hg, hl, hm, B.up k, G.up k, L.up k⟩, c, f⟩

/-- what is left of a def's text -/
def Tail (K : Frag) (f : Addr) (n : Nat) (L : Addr) (rest : List Stmt) (env : Env) : Prop :=
  ∃ oc od name qual params body scope dV kV doc pm an cdv ct osl, K.lookup f = some ⟨oc, od, .func (fnOf name qual params body scope dV kV doc pm an cdv ct), osl⟩ ∧ rest = body.drop n ∧ env = envOfC qual scope L f cdv
theorem Tail.go {K : Frag} {f : Addr} {n : Nat} {L : Addr} {rest : List Stmt} {env : Env} {P : List Stmt → Env → Prop} {name qual : Str} {params : Arguments} {body : List Stmt} {scope : Scope} {dV kV doc pm cdv ct oc : Value} {an od : Option Addr} {osl : Array (Option Value)}
    (hT : Tail K f n L rest env) (k1 : K.lookup f = some ⟨oc, od, .func (fnOf name qual params body scope dV kV doc pm an cdv ct), osl⟩) (h : P (body.drop n) (envOfC qual scope L f cdv)) : P rest env := by
  obtain ⟨_, _, _, _, _, _, _, _, _, _, _, _, _, _, _, e, rfl, rfl⟩ := hT
  rw [k1] at e
  cases e
  exact h
theorem Tail.mk {K : Frag} {f : Addr} {n : Nat} {L : Addr} {rest : List Stmt} {env : Env} {name qual : Str} {params : Arguments} {body : List Stmt} {scope : Scope} {dV kV doc pm cdv ct oc : Value} {an od : Option Addr} {osl : Array (Option Value)}
    (k1 : K.lookup f = some ⟨oc, od, .func (fnOf name qual params body scope dV kV doc pm an cdv ct), osl⟩) (k2 : body.drop n = rest) (k3 : envOfC qual scope L f cdv = env) : Tail K f n L rest env :=
  ⟨_, _, _, _, _, _, _, _, _, _, _, _, _, _, _, k1, k2.symm, k3.symm⟩
theorem drop_go {P : List Stmt → Env → Prop} {a : Stmt} {l : List Stmt} {n : Nat} {env : Env} (h : P (l.drop n) env) : P ((a :: l).drop (n + 1)) env := h
theorem drop_0 {P : List Stmt → Env → Prop} {l : List Stmt} {env : Env} (h : P l env) : P (l.drop 0) env := h
/-- a part is entered -/
theorem Tail.wp {M : Model} {A : Around} {Q : Flow → Shared → Prop} {E : Value → Shared → Prop} {s : Shared} {K : Frag} {f : Addr} {n : Nat} {L : Addr} {rest : List Stmt} {env : Env} {name qual : Str} {params : Arguments} {body : List Stmt} {scope : Scope} {dV kV doc pm cdv ct oc : Value} {an od : Option Addr} {osl : Array (Option Value)}
    {s₀ : Shared} {H₀ : Heap} {W : List Addr} {m cm : Str → Option Value} {ms : List (Addr × Obj)} (F : Fz s₀ H₀ W env H m cm ms s)
    (hT : Tail K f n L rest env) (k1 : K.lookup f = some ⟨oc, od, .func (fnOf name qual params body scope dV kV doc pm an cdv ct), osl⟩)
    (h : Fz s₀ H₀ W (envOfC qual scope L f cdv) H m cm ms s → wpAny M A (execs (body.drop n) (envOfC qual scope L f cdv)) Q E s) : wpAny M A (execs rest env) Q E s :=
  Tail.go (P := fun rest env => Fz s₀ H₀ W env H m cm ms s → wpAny M A (execs rest env) Q E s) hT k1 h F
theorem wdrop_go {M : Model} {A : Around} {Q : Flow → Shared → Prop} {E : Value → Shared → Prop} {s : Shared} {a : Stmt} {l : List Stmt} {n : Nat} {env : Env} (h : wpAny M A (execs (l.drop n) env) Q E s) : wpAny M A (execs ((a :: l).drop (n + 1)) env) Q E s := h
theorem wdrop_0 {M : Model} {A : Around} {Q : Flow → Shared → Prop} {E : Value → Shared → Prop} {s : Shared} {l : List Stmt} {env : Env} (h : wpAny M A (execs l env) Q E s) : wpAny M A (execs (l.drop 0) env) Q E s := h

structure LawD (prog : Program) (w : World) (H : Heap) (b : Addr) (a : Nat) (ds : List InfoD) (tv pv : Value) (nss : List (List Int)) : Prop where
  hb : BufAt H b ds
  hds : ∀ d ∈ ds, DOk d
  hdl : ds.length ≤ 7
  ha : a < ds.length
  htv : Ls (TestAt prog w) H tv nss
  hpv : Ls IL H pv nss
  hpl : ∀ pl ∈ nss, PlOk pl
  hn1 : 1 ≤ nss.length
  hn3 : nss.length ≤ 3
theorem LawD.up {b : Addr} {a : Nat} {ds : List InfoD} {tv pv : Value} {nss : List (List Int)} (k : Le H H') (x : LawD prog w H b a ds tv pv nss) : LawD prog w H' b a ds tv pv nss :=
  ⟨x.hb.up k, x.hds, x.hdl, x.ha, x.htv.up k fun _ _ => TestAt.up k, x.hpv.up k fun _ _ => IL.up' k, x.hpl, x.hn1, x.hn3⟩
structure LawS (prog : Program) (w : World) (H : Heap) (b x : Addr) (a : Nat) (ds : List InfoD) (tv pv : Value) (nss : List (List Int)) (f : Int → Int) (flag mask : Int) : Prop extends LawD prog w H b a ds tv pv nss where
  hf : ∀ g, 0 ≤ f g ∧ f g ≤ 3
  hx : SceneAt prog w H x ⟨ds, fin6 f, flag, mask⟩
theorem LawS.up {b x : Addr} {a : Nat} {ds : List InfoD} {tv pv : Value} {nss : List (List Int)} {f : Int → Int} {flag mask : Int} (k : Le H H') (z : LawS prog w H b x a ds tv pv nss f flag mask) : LawS prog w H' b x a ds tv pv nss f flag mask :=
  { toLawD := z.toLawD.up k, hf := z.hf, hx := z.hx.up k }
/-- the names that stand from the scene on -/
structure Nms (m cm : Str → Option Value) (P b x : Addr) (a : Nat) (t : Tok) (tv pv : Value) (mask : Int) (tm : Tok) : Prop where
  pool : m "pool" = some (.ref P)
  plain : m "plain" = some pv
  mask : m "mask" = some (.int mask tm)
  scene : m "scene" = some (.ref x)
  rows : cm "rows" = some (.ref b)
  tests : cm "tests" = some tv
  at_ : cm "at" = some (.int (a : Int) t)
/-- the line of places on one side -/
def sideL (ds : List InfoD) (f : Int → Int) (flag : Int) (up : Bool) (a : Nat) : List Nat := (dirL ds.length up fun j => ignP flag f (gAt ds j)).filter (dirR up a)
theorem sideL_lt {ds : List InfoD} {f : Int → Int} {flag : Int} {up : Bool} {a j : Nat} (h : j ∈ sideL ds f flag up a) : j < ds.length := dirL_lt (List.mem_filter.mp h).1
theorem sideL_len {ds : List InfoD} {f : Int → Int} {flag : Int} {up : Bool} {a : Nat} : (sideL ds f flag up a).length ≤ ds.length := by
  refine Nat.le_trans (List.length_filter_le _ _) ?_
  unfold dirL
  split
  · exact Nat.le_trans (List.length_filter_le _ _) (by rw [List.length_range]; exact Nat.le_refl _)
  · rw [List.length_reverse]
    exact Nat.le_trans (List.length_filter_le _ _) (by rw [List.length_range]; exact Nat.le_refl _)
end lb

-- part L2
section l2
variable {prog : Program} {w : World} {A : Around} {E : Value → Shared → Prop} {Q : Flow → Shared → Prop} {s₀ s : Shared} {H₀ H : Heap} {env : Env} {m cm : Str → Option Value}
theorem law_s2 {P b : Addr} {o : Obj} {a : Nat} {t : Tok} {ds : List InfoD} {tv pv : Value} {nss : List (List Int)} {L : Addr} {rest : List Stmt}
    (hT : Tail (hd.heap_1 w.params) 481 4 L rest env) (g : Gl (hd.heap_1 w.params) H) (hA : Ok A 11) (F : Fz s₀ H₀ [] env H m cm [(P, o)] s) (ho : PoolAt o)
    (n1 : m "pool" = some (.ref P)) (n2 : m "plain" = some pv) (n3 : cm "rows" = some (.ref b)) (n4 : cm "tests" = some tv) (n5 : cm "at" = some (.int (a : Int) t))
    (D : LawD prog w H b a ds tv pv nss)
    (next : ∀ rest' env' H' m' s' x y d o' f flag mask tm, Tail (hd.heap_1 w.params) 481 8 L rest' env' → Le H H' → PoolAt o' → Nms m' cm P b x a t tv pv mask tm → m' "lookup" = some (.ref y) → m' "classes" = some (.ref d) → LawS prog w H' b x a ds tv pv nss f flag mask →
      LookAt H' y flag → ClassesAt prog w H' d f → Fz s₀ H₀ [] env' H' m' cm [(P, o')] s' → wpAny (model prog w) A (execs rest' env') Q E s') : wpAny (model prog w) A (execs rest env) Q E s := by
  have hT₀ := hT
  refine' Tail.wp F hT ?k1 ?_
  (case k1 => k_is)
  clear F hT
  intro F
  repeat refine wdrop_go ?_
  refine wdrop_0 ?_
  repeat ktr_rel
  rename Fz _ _ _ _ _ _ _ _ _ => F
  refine z_take (pre := []) F g (hA.less (by omega)) ho (by decide) (by decide) ?_
  clear F ho
  intro k t₂ o₃ s₇ k0 k1 ho₃ F
  repeat ktr_rel
  rename Fz _ _ _ _ _ _ _ _ _ => F
  refine gdef_spec g F.le (hA.less (by omega)) F.m0 (F.off _ (Fz.mem_muts (pre := []))) ho₃ ?_
  intro f d H₁ s₁ o₁ hf st ho₁' ho₁ hd
  replace F := F.put (pre := []) st ho₁'
  have g₁ := g.up st.le
  have D₁ := D.up st.le
  have le₁ := st.le
  clear g D st ho₁' ho₃
  repeat ktr_rel
  rename Fz _ _ _ _ _ _ _ _ _ => F
  refine lookup_spec g₁ F.le (hA.less (by omega)) F.m0 (F.off _ (Fz.mem_muts (pre := []))) ho₁ ?_
  intro flag y H₂ s₂ o₂ hfl st ho₂' ho₂ hy
  replace F := F.put (pre := []) st ho₂'
  have g₂ := g₁.up st.le
  have D₂ := D₁.up st.le
  have hd₂ := hd.up st.le
  have le₂ := st.le
  clear g₁ D₁ hd st ho₂' ho₁
  repeat ktr_rel
  rename Fz _ _ _ _ _ _ _ _ _ => F
  refine scene_spec g₂ F.le (hA.less (by omega)) D₂.hb hf hd₂ hy hfl ?_
  intro x H₃ s₃ st hx
  replace F := F.next st
  have le₃ := st.le
  iterate 2 ktr_rel
  rename Fz _ _ _ _ _ _ _ _ _ => F
  refine' next _ _ _ _ _ x y d o₂ f flag _ _ (Tail.mk ?t1 ?t2 ?t3) (le₁.trans (le₂.trans le₃)) ho₂ ⟨?n1, ?n2, rfl, rfl, n3, n4, n5⟩ rfl rfl { toLawD := D₂.up le₃, hf := hf, hx := hx } (hy.up le₃) (hd₂.up le₃) F
  (case t1 => k_is)
  (case t2 => rfl)
  (case t3 => rfl)
  all_goals assumption
end l2

-- part L3
section l3
variable {prog : Program} {w : World} {A : Around} {E : Value → Shared → Prop} {Q : Flow → Shared → Prop} {s₀ s : Shared} {H₀ H : Heap} {env : Env} {m cm : Str → Option Value}
theorem toI_range7 : toI (List.range 7) = [0, 1, 2, 3, 4, 5, 6] := by decide
theorem toI_filt (l : List Nat) (p : Int → Bool) : (toI l).filter p = toI (l.filter fun j => p (j : Int)) := by
  unfold toI
  rw [List.filter_map]
  rfl
theorem law_s3 {P b x : Addr} {o : Obj} {a : Nat} {t tm : Tok} {ds : List InfoD} {tv pv : Value} {nss : List (List Int)} {f : Int → Int} {flag mask : Int} {L : Addr} {rest : List Stmt}
    (hT : Tail (hd.heap_1 w.params) 481 8 L rest env) (g : Gl (hd.heap_1 w.params) H) (hA : Ok A 11) (F : Fz s₀ H₀ [] env H m cm [(P, o)] s)
    (N : Nms m cm P b x a t tv pv mask tm) (D : LawS prog w H b x a ds tv pv nss f flag mask)
    (next : ∀ rest' env' H' cm' s', Tail (hd.heap_1 w.params) 481 9 L rest' env' → Le H H' → Nms m cm' P b x a t tv pv mask tm → Fz s₀ H₀ [] env' H' m cm' [(P, o)] s' → wpAny (model prog w) A (execs rest' env') Q E s') : wpAny (model prog w) A (execs rest env) Q E s := by
  have hT₀ := hT
  have N₀ := N
  refine' Tail.wp F hT ?k1 ?_
  (case k1 => k_is)
  clear F hT
  intro F
  repeat refine wdrop_go ?_
  refine wdrop_0 ?_
  obtain ⟨n1, n2, n3, n4, n5, n6, n7⟩ := N
  obtain ⟨lt, vt, rfl, hlt, hvt⟩ := D.htv
  obtain ⟨lp, vp, rfl, hlp, hvp⟩ := D.hpv
  have hn3 := D.hn3
  repeat ktr_rel
  rename Fz _ _ _ _ _ _ _ _ _ => F
  refine z_len F (F.lst hlt.isList) (by rw [List.size_toArray, hvt.1, sizeLine_eq]; omega) ?_
  clear F
  intro t₁ s₁ F
  rw [List.size_toArray, hvt.1]
  repeat ktr_rel
  rename Fz _ _ _ _ _ _ _ _ _ => F
  refine z_range F ?_
  clear F
  intro r u v s₂ hr F
  refine for_rangeG hA.hh F (by omega) (fun i H' m' cm' ms' => m' = m ∧ ms' = [(P, o)] ∧ cm' "rows" = some (.ref b) ∧ cm' "tests" = some (.ref lt) ∧ cm' "at" = some (.int (a : Int) t) ∧ Le H H') ⟨rfl, rfl, n5, n6, n7, .refl⟩ ?_ ?_
  · rintro i v I io H' m' cm' ms' s₃ E' hi ⟨t₂, rfl⟩ ⟨rfl, rfl, n5, n6, n7, le'⟩ F
    have g' := g.up le'
    clear g
    have F : Fz _ _ _ _ _ _ _ [(P, o), (I, io)] _ := F
    have hni := List.getElem?_eq_getElem hi
    have hpo := D.hpl _ (List.getElem_mem hi)
    obtain ⟨vi, hvi, hti⟩ := hvt.get hni
    obtain ⟨wi, hwi, hpi⟩ := hvp.get hni
    generalize nss[i] = pl at hni hpo hti hpi
    obtain ⟨li, ui, rfl, hli, hui⟩ := hpi
    have hlt1 := hlt.up le'
    have hlp1 := hlp.up le'
    have hli1 := hli.up le'
    have hti1 := TestAt.up le' hti
    intro K₀ hK₀
    refine wpAny_assign_Name ?_
    repeat ktr_rel
    rename Fz _ _ _ _ _ _ _ _ _ => F
    refine z_range F ?_
    clear F
    intro r u v s₄ hr F
    refine ready_range0 (n := 7) hA.hh F ⟨by intro n c h; simp at h; rcases h with ⟨rfl, rfl⟩ | ⟨rfl, rfl⟩ <;> exact ⟨rfl, rfl⟩, by simp⟩ (by omega)
      (fun j ys H' ms' => ms' = [(P, o), (I, io)] ∧ IntsAre ys ((toI (List.range j)).filter fun g => decide (g ∈ pl))) ⟨rfl, .nil⟩ ?_ ?_
    · rintro j v ys H₂ ms' s₅ C mC E₂ hj ⟨t₃, rfl⟩ ⟨rfl, hys⟩ le₂ e3 F
      have g₂ := g'.up le₂
      clear g'
      repeat ktr_rel
      rename Fz _ _ _ _ _ _ _ _ _ => F
      refine z_itemL (F.lst (hlt1.up le₂).isList) (x := vi) (by simpa using hvi) ?_ (by omega) (by rw [hvt.1]; omega)
      repeat ktr_rel
      rename Fz _ _ _ _ _ _ _ _ _ => F
      refine fits_spec g₂ F.le (hA.less (by omega)) (TestAt.up le₂ hti1) fun s₆ st => ?_
      replace F := F.next st
      have htoI : toI (List.range (j + 1)) = toI (List.range j) ++ [(j : Int)] := by rw [List.range_succ, toI_snoc]
      repeat ktr_rel
      refine z_if (fun hb => ?_) (fun hb => ?_)
      · repeat ktr_rel
        rename Fz _ _ _ _ _ _ _ _ _ => F
        repeat ktr_rel
        refine ⟨H₂, _, F, rfl, rfl, ?_⟩
        rw [htoI, List.filter_append, List.filter_cons, if_pos hb, List.filter_nil]
        exact IntsAre.snoc hys _ _
      · rename Fz _ _ _ _ _ _ _ _ _ => F
        repeat ktr_rel
        refine ⟨H₂, _, F, rfl, rfl, ?_⟩
        rw [htoI, List.filter_append, List.filter_cons, if_neg hb, List.filter_nil, List.append_nil]
        exact hys
    · rintro D1 C ys H₂ ms' nn co mC s₅ hD1 hC ⟨rfl, hys⟩ le₂ - F hN
      refine ⟨mC, hN, fun h' hs => ?_⟩
      replace F := F.endC hC hs
      have g₂ := g'.up le₂
      clear g'
      rw [toI_range7, fits_all hpo] at hys
      repeat ktr_rel
      rename Fz _ _ _ _ _ _ _ _ _ => F
      refine z_itemL (F.lst (hlp1.up le₂).isList) (x := .ref li) (by simpa using hwi) ?_ (by omega) (by rw [hvp.1]; omega)
      rename Fz _ _ _ _ _ _ _ _ _ => F
      refine z_neI hA ⟨nn, F.m0⟩ ((hli1.up le₂).up F.le) hys hui ?_
      replace F := F.forget (pre := [])
      rw [decide_eq_true rfl]
      repeat ktr_rel
      rename Fz _ _ _ _ _ _ _ _ _ => F
      repeat ktr_rel
      exact ⟨H₂, _, _, [(P, o)], F, le₂, rfl, rfl, n5, n6, n7, le'.trans le₂⟩
  · rintro H' m' cm' ms' s₃ ⟨rfl, rfl, n5, n6, n7, le'⟩ F
    ktr_rel
    refine' next _ _ _ _ _ (Tail.mk ?t1 ?t2 ?t3) le' ⟨n1, n2, n3, n4, n5, n6, n7⟩ F
    (case t1 => k_is)
    (case t2 => rfl)
    (case t3 => rfl)
end l3

-- part L4
section l4
variable {prog : Program} {w : World} {A : Around} {E : Value → Shared → Prop} {Q : Flow → Shared → Prop} {s₀ s : Shared} {H₀ H : Heap} {env : Env} {m cm : Str → Option Value}
theorem IntsAre.rev {us : List Value} {ns : List Int} (h : IntsAre us ns) : IntsAre us.reverse ns.reverse := by
  induction h with
  | nil => exact .nil
  | cons i t _ ih => rw [List.reverse_cons, List.reverse_cons]; exact IntsAre.snoc ih _ _
theorem toI_rev (l : List Nat) : (toI l).reverse = toI l.reverse := by unfold toI; rw [List.map_reverse]
theorem seen_dir {ds : List InfoD} {f : Int → Int} {flag : Int} : seenP ds (ignP flag f) = dirL ds.length true fun j => ignP flag f (gAt ds j) := rfl
theorem seen_up {ds : List InfoD} {f : Int → Int} {flag : Int} {a : Nat} : (seenP ds (ignP flag f)).filter (dirR true a) = sideL ds f flag true a := rfl
theorem seen_down {ds : List InfoD} {f : Int → Int} {flag : Int} {a : Nat} : ((seenP ds (ignP flag f)).filter (dirR false a)).reverse = sideL ds f flag false a := by
  unfold sideL dirL seenP
  rw [← List.filter_reverse]
  rfl
theorem law_s4 {P b x y d : Addr} {o : Obj} {a : Nat} {t tm : Tok} {ds : List InfoD} {tv pv : Value} {nss : List (List Int)} {f : Int → Int} {flag mask : Int} {L : Addr} {rest : List Stmt}
    (hT : Tail (hd.heap_1 w.params) 481 9 L rest env) (g : Gl (hd.heap_1 w.params) H) (hA : Ok A 11) (F : Fz s₀ H₀ [] env H m cm [(P, o)] s)
    (N : Nms m cm P b x a t tv pv mask tm) (D : LawS prog w H b x a ds tv pv nss f flag mask) (e1 : m "lookup" = some (.ref y)) (e2 : m "classes" = some (.ref d)) (hy : LookAt H y flag) (hcd : ClassesAt prog w H d f)
    (next : ∀ rest' env' H' m' s' vb vf vi, Tail (hd.heap_1 w.params) 481 13 L rest' env' → Le H H' → Nms m' cm P b x a t tv pv mask tm → m' "behind" = some vb → m' "before" = some vf → m' "inside" = some vi →
      IL H' vb (toI (sideL ds f flag true a)) → IL H' vf (toI (sideL ds f flag false a)) → Ls WayR H' vi ((waysP ds kInput mask nss.tail (sideL ds f flag true a)).map (a :: ·)) →
      Fz s₀ H₀ [] env' H' m' cm [(P, o)] s' → wpAny (model prog w) A (execs rest' env') Q E s') : wpAny (model prog w) A (execs rest env) Q E s := by
  have hT₀ := hT
  refine' Tail.wp F hT ?k1 ?_
  (case k1 => k_is)
  clear F hT
  intro F
  repeat refine wdrop_go ?_
  refine wdrop_0 ?_
  obtain ⟨n1, n2, n3, n4, n5, n6, n7⟩ := N
  obtain ⟨ay, ty, Iy, hfy⟩ := id hy
  have hdl := D.hdl
  repeat ktr_rel
  rename Fz _ _ _ _ _ _ _ _ _ => F
  refine seen_spec g F.le (hA.less (by omega)) D.hb D.hds D.hdl D.hf hcd ?_
  intro vs H₁ s₁ st hvs
  replace F := F.next st
  have g₁ := g.up st.le
  have D₁ := D.up st.le
  have le₁ := st.le
  clear g D st hy hcd Iy
  obtain ⟨l1, us, rfl, hl1, hus⟩ := hvs
  have hsl : us.length = (seenP ds (ignP flag f)).length := by rw [hus.length]; unfold toI; rw [List.length_map]
  have hsn : (seenP ds (ignP flag f)).length ≤ ds.length := Nat.le_trans (List.length_filter_le _ _) (by rw [List.length_range]; exact Nat.le_refl _)
  repeat ktr_rel
  refine z_compA (by rfl) rfl (by decide) rfl (by decide) rfl ?_
  repeat ktr_rel
  rename Fz _ _ _ _ _ _ _ _ _ => F
  refine ready_list hA.hh F (items := us.toArray) hl1.isList ⟨by intro n c h; simp at h; obtain ⟨rfl, rfl⟩ := h; exact ⟨rfl, rfl⟩, by simp⟩ (by rw [List.size_toArray, sizeLine_eq]; omega)
    (fun i ys H' ms' => ms' = [(P, o)] ∧ IntsAre ys (toI (((seenP ds (ignP flag f)).take i).filter (dirR true a)))) ⟨rfl, .nil⟩ ?_ ?_
  · rintro i v ys H' ms' s₂ C mC E' hi hv ⟨rfl, hys⟩ le' e3 F
    obtain ⟨q, tq, rfl, hq⟩ := toI_at hus (by simpa using hv)
    repeat ktr_rel
    refine z_if (fun hb2 => ?_) (fun hb2 => ?_)
    · repeat ktr_rel
      rename Fz _ _ _ _ _ _ _ _ _ => F
      repeat ktr_rel
      refine ⟨H', _, F, rfl, rfl, ?_⟩
      rw [filt_yes hq (show dirR true a q = true by simpa [dirR] using hb2), toI_snoc]
      exact IntsAre.snoc hys _ _
    · repeat ktr_rel
      rename Fz _ _ _ _ _ _ _ _ _ => F
      repeat ktr_rel
      refine ⟨H', _, F, rfl, rfl, ?_⟩
      rw [filt_no hq (show dirR true a q = false by simpa [dirR] using hb2)]
      exact hys
  · rintro D1 C ys H' ms' nn co mC s₂ hD1 hC ⟨rfl, hys⟩ le' - F hN
    refine z_endA (by rfl) hC F hN fun s'' hN' hF => ⟨mC, hN', fun h' hs => ?_⟩
    clear F
    have F := hF h' hs
    clear hF
    rw [List.size_toArray, hsl, List.take_length, seen_up] at hys
    obtain ⟨H₂, le₂', hD1, G⟩ := F.freeze hD1
    clear F
    have le₂ := le'.trans le₂'
    clear le' le₂'
    have g₂ := g₁.up le₂
    have D₂ := D₁.up le₂
    have hl2 := hl1.up le₂
    have hLD : LA H₂ D1 ys := ⟨_, hD1⟩
    clear g₁ D₁ hl1 hD1
    repeat ktr_rel
    rename Fz _ _ _ _ _ _ _ _ _ => F
    refine ready_list hA.hh F (items := us.toArray) hl2.isList ⟨by intro n c h; simp at h; obtain ⟨rfl, rfl⟩ := h; exact ⟨rfl, rfl⟩, by simp⟩ (by rw [List.size_toArray, sizeLine_eq]; omega)
      (fun i ys H' ms' => ms' = [(P, o)] ∧ IntsAre ys (toI (((seenP ds (ignP flag f)).take i).filter (dirR false a)))) ⟨rfl, .nil⟩ ?_ ?_
    · rintro i v ys H' ms' s₂ C mC E' hi hv ⟨rfl, hys⟩ le' e3 F
      obtain ⟨q, tq, rfl, hq⟩ := toI_at hus (by simpa using hv)
      repeat ktr_rel
      refine z_if (fun hb2 => ?_) (fun hb2 => ?_)
      · repeat ktr_rel
        rename Fz _ _ _ _ _ _ _ _ _ => F
        repeat ktr_rel
        refine ⟨H', _, F, rfl, rfl, ?_⟩
        rw [filt_yes hq (show dirR false a q = true by simpa [dirR] using hb2), toI_snoc]
        exact IntsAre.snoc hys _ _
      · repeat ktr_rel
        rename Fz _ _ _ _ _ _ _ _ _ => F
        repeat ktr_rel
        refine ⟨H', _, F, rfl, rfl, ?_⟩
        rw [filt_no hq (show dirR false a q = false by simpa [dirR] using hb2)]
        exact hys
    · rintro D2 C ys2 H' ms' nn2 co mC s₃ hD2 hC ⟨rfl, hys2⟩ le' - F hN
      refine ⟨mC, hN, fun h' hs => ?_⟩
      replace F := F.endC hC hs
      rw [List.size_toArray, hsl, List.take_length] at hys2
      repeat ktr_rel
      rename Fz _ _ _ _ _ _ _ _ _ => F
      refine z_mk F ?_
      clear F
      intro sl s₄ hsl' F
      have hy2l : ys2.length ≤ 7 := by
        rw [hys2.length]
        unfold toI
        rw [List.length_map]
        exact Nat.le_trans (List.length_filter_le _ _) (by omega)
      refine z_sliceR ⟨_, F.m1, rfl, _, rfl⟩ F.m0 (.int _ _) (by omega) ?_
      replace F := F.forget (pre := [])
      replace F := F.forget (pre := [])
      refine z_mkF F ?_
      clear F
      intro D3 s₅ H₃ le₃' hD3 F
      have hys3 := IntsAre.rev hys2
      rw [toI_rev, seen_down] at hys3
      have le₃ := le'.trans le₃'
      have g₃ := g₂.up le₃
      have D₃ := D₂.up le₃
      have hLD1 := hLD.up le₃
      have hLD3 : LA H₃ D3 _ := ⟨_, hD3⟩
      clear g₂ D₂ hLD hD3 le₃' le'
      obtain ⟨lp, vp, rfl, hlp, hvp⟩ := id D₃.hpv
      obtain ⟨pl, nr, rfl⟩ : ∃ pl nr, nss = pl :: nr := by
        cases nss with
        | nil => exact absurd D₃.hn1 (by decide)
        | cons p r => exact ⟨p, r, rfl⟩
      obtain ⟨p0, pr, rfl, hp0, hpr⟩ := hvp.cons_inv
      have hn3 := D₃.hn3
      rw [List.length_cons] at hn3
      repeat ktr_rel
      refine z_compA (by rfl) rfl (by decide) rfl (by decide) rfl ?_
      repeat ktr_rel
      rename Fz _ _ _ _ _ _ _ _ _ => F
      refine z_mk F ?_
      clear F
      intro sl s₆ hsl' F
      repeat ktr_rel
      rename Fz _ _ _ _ _ _ _ _ _ => F
      refine z_slice (items := p0 :: pr) (F.lst hlp.isList) F.m0 (.int _ _) .none .none (by decide) (by rw [List.length_cons, hpr.1]; omega) ?_
      rw [pick_tail]
      replace F := F.forget (pre := [])
      refine z_mkF F ?_
      clear F
      intro l6 s₇ H₄ le₄ hl6 F
      have g₄ := g₃.up le₄
      clear g₃
      repeat ktr_rel
      rename Fz _ _ _ _ _ _ _ _ _ => F
      refine z_mkF F ?_
      clear F
      intro T s₈ H₅ le₅ hT F
      have hk : KT H₅ (.ref T) kInput := ⟨T, _, rfl, hT, .cons _ _ (.cons _ _ .nil), fun k hk => by unfold kInput at hk; simp at hk; rcases hk with rfl | rfl <;> decide +kernel⟩
      have g₅ := g₄.up le₅
      clear g₄
      have le45 := le₄.trans le₅
      have D₅ := D₃.up le45
      have hLD1' := hLD1.up le45
      have hLD3' := hLD3.up le45
      clear D₃ hLD1 hLD3
      repeat ktr_rel
      rename Fz _ _ _ _ _ _ _ _ _ => F
      refine ways_spec D₅.hds D₅.hdl nr g₅ F.le (hA.less (by omega)) D₅.hb ⟨l6, pr, rfl, ⟨0, le₅ _ _ hl6⟩, hpr.mono fun _ _ => IL.up' le45⟩ (by omega) hk (seen := sideL ds f flag true a) ⟨D1, ys, rfl, hLD1', hys⟩ (fun j hj => sideL_lt hj) (Nat.le_trans sideL_len D₅.hdl) ?_
      intro v H₆ s₉ st hw
      replace F := F.next st
      have le₆ := st.le
      have g₆ := g₅.up le₆
      clear g₅ st
      have D₆ := D₅.up le₆
      have hLD1 := hLD1'.up le₆
      have hLD3 := hLD3'.up le₆
      clear D₅ hLD1' hLD3'
      have hwlen := ways_len ds kInput mask nr (sideL ds f flag true a)
      have hwlen2 := ways_len2 ds kInput mask nr (sideL ds f flag true a)
      generalize hWW : waysP ds kInput mask nr (sideL ds f flag true a) = W at hw hwlen hwlen2
      obtain ⟨lw, wv, rfl, hlw, hwv⟩ := hw
      repeat ktr_rel
      rename Fz _ _ _ _ _ _ _ _ _ => F
      refine ready_list hA.hh F (items := wv.toArray) hlw.isList ⟨by intro n c h; simp at h; obtain ⟨rfl, rfl⟩ := h; exact ⟨rfl, rfl⟩, by simp⟩ (by rw [List.size_toArray, hwv.1, sizeLine_eq]; omega)
        (fun i ys H' ms' => ms' = [(P, o)] ∧ All2 (WayR H') ys ((W.take i).map (a :: ·))) ⟨rfl, .nil⟩ ?_ ?_
      · rintro i v zs H' ms' s₂ C mC E' hi hv ⟨rfl, hz⟩ le' e3 F
        have hiw : i < W.length := by rw [← hwv.1]; simpa using hi
        have hwi := List.getElem?_eq_getElem hiw
        obtain ⟨v', hv', hwr⟩ := hwv.get hwi
        have hvv : v = v' := by
          have e8 : wv[i]? = some v := by simpa using hv
          rw [hv'] at e8
          exact (Option.some.inj e8).symm
        subst hvv
        obtain ⟨ly, yv, rfl, hly, hyv⟩ := WayR.up le' hwr
        have hyl : yv.length ≤ 10 := by
          rw [hyv.length]
          unfold toI
          rw [List.length_map, hwlen2 _ (List.getElem_mem hiw)]
          omega
        repeat ktr_rel
        rename Fz _ _ _ _ _ _ _ _ _ => F
        refine z_mk F ?_
        clear F
        intro T1 s₂₀ hT1 F
        repeat ktr_rel
        rename Fz _ _ _ _ _ _ _ _ _ => F
        refine z_addL ⟨0, F.m0⟩ (hly.up F.le) (by simp; omega) ?_
        replace F := F.forget (pre := [])
        refine z_mkF F ?_
        clear F
        intro l7 s₂₁ H₉ le₉ hl7 F
        repeat ktr_rel
        refine ⟨H₉, _, F, rfl, rfl, ?_⟩
        rw [List.take_add_one, hwi, List.map_append]
        exact (hz.mono fun _ _ => WayR.up le₉).snoc ⟨l7, _, rfl, ⟨0, hl7⟩, .cons _ _ hyv⟩
      · rintro D4 C zs H' ms' nn4 co mC s₂ hD4 hC ⟨rfl, hz⟩ le' - F hN
        refine z_endA (by rfl) hC F hN fun s'' hN' hF => ⟨mC, hN', fun h' hs => ?_⟩
        clear F
        have F := hF h' hs
        clear hF
        rw [List.size_toArray, hwv.1, List.take_length] at hz
        obtain ⟨H₇, le₇, hD4, G⟩ := F.freeze hD4
        clear F
        have le67 := le'.trans le₇
        subst hWW
        ktr_rel
        refine' next _ _ _ _ _ (.ref D1) (.ref D3) (.ref D4) (Tail.mk ?t1 ?t2 ?t3) (le₁.trans (le₂.trans (le₃.trans (le45.trans (le₆.trans le67))))) ⟨?q1, ?q2, ?q3, ?q4, n5, n6, n7⟩ ?q5 ?q6 ?q7 ⟨D1, ys, rfl, hLD1.up le67, hys⟩ ⟨D3, _, rfl, hLD3.up le67, hys3⟩ ⟨D4, zs, rfl, ⟨_, hD4⟩, hz.mono fun _ _ => WayR.up le₇⟩ G
        (case t1 => k_is)
        (case t2 => rfl)
        (case t3 => rfl)
        all_goals first | rfl | assumption
end l4

-- part L5
section l5
variable {prog : Program} {w : World} {A : Around} {E : Value → Shared → Prop} {Q : Flow → Shared → Prop} {s₀ s : Shared} {H₀ H : Heap} {env : Env} {m cm : Str → Option Value}
theorem law_s5 {P b x : Addr} {o : Obj} {a : Nat} {t tm : Tok} {ds : List InfoD} {tv pv vi : Value} {nss : List (List Int)} {f : Int → Int} {flag mask : Int} {L : Addr} {rest : List Stmt}
    (hT : Tail (hd.heap_1 w.params) 481 13 L rest env) (g : Gl (hd.heap_1 w.params) H) (hA : Ok A 11) (F : Fz s₀ H₀ [] env H m cm [(P, o)] s)
    (N : Nms m cm P b x a t tv pv mask tm) (D : LawS prog w H b x a ds tv pv nss f flag mask) (e1 : m "inside" = some vi)
    (hvi : Ls WayR H vi ((waysP ds kInput mask nss.tail (sideL ds f flag true a)).map (a :: ·)))
    (next : ∀ rest' env' H' s', Tail (hd.heap_1 w.params) 481 14 L rest' env' → Le H H' → Fz s₀ H₀ [] env' H' m cm [(P, o)] s' → wpAny (model prog w) A (execs rest' env') Q E s') : wpAny (model prog w) A (execs rest env) Q E s := by
  have hT₀ := hT
  refine' Tail.wp F hT ?k1 ?_
  (case k1 => k_is)
  clear F hT
  intro F
  repeat refine wdrop_go ?_
  refine wdrop_0 ?_
  obtain ⟨n1, n2, n3, n4, n5, n6, n7⟩ := N
  obtain ⟨pl, nr, rfl⟩ : ∃ pl nr, nss = pl :: nr := by
    cases nss with
    | nil => exact absurd D.hn1 (by decide)
    | cons p r => exact ⟨p, r, rfl⟩
  rw [List.tail_cons, show waysP ds kInput mask nr (sideL ds f flag true a) = _ from ways_chain (inp := true) (up := true) D.hds (fun pl j _ => goodIn pl j) nr a D.ha] at hvi
  have hn3 := D.hn3
  rw [List.length_cons] at hn3
  obtain ⟨li, ui, rfl, hli, hui⟩ := hvi
  obtain ⟨lp, up, rfl, hlp, hup⟩ := D.hpv
  obtain ⟨p0, pr, rfl, hp0, hpr⟩ := hup.cons_inv
  obtain ⟨lp0, pvs, rfl, hlp0, hpi⟩ := hp0
  obtain ⟨ab, lb, vb, Ib, hrow, hlb, hvb⟩ := D.hb
  obtain ⟨vy, hvy, hin⟩ := hvb.get (List.getElem?_eq_getElem D.ha)
  obtain ⟨y, ay, tt1, tt2, tt3, rfl, Iy, hg1, hg2, hg3⟩ := hin
  obtain ⟨ag, ak, am⟩ := at_info D.ha
  repeat ktr_rel
  rename Fz _ _ _ _ _ _ _ _ _ => F
  refine input_spec g F.le (hA.less (by omega)) D.hx D.hds D.hdl D.ha D.htv (by omega) ?_
  intro v H₁ s₁ st hv
  replace F := F.next st
  have g₁ := g.up st.le
  have le₁ := st.le
  clear g st
  have hli1 := hli.up le₁
  have hlp1 := hlp.up le₁
  have hlp01 := hlp0.up le₁
  have Iy1 := Iy.up le₁
  have Ib1 := Ib.up le₁
  have hlb1 := lst_up le₁ hlb
  have hplen : pr.length + 1 ≤ 1000 := by rw [hpr.1]; omega
  cases hc : chainP (nxtP ⟨ds, fin6 f, flag, mask⟩ 1 kInput true) nr a with
  | none =>
    rw [hc] at hv
    have hv : v = .none := by split at hv <;> exact hv
    subst hv
    have hui : All2 (WayR H) ui [] := by rw [show stepOf true = 1 from rfl, hc] at hui; exact hui
    have hu0 : ui = [] := List.length_eq_zero_iff.mp hui.1
    subst hu0
    repeat ktr_rel
    rename Fz _ _ _ _ _ _ _ _ _ => F
    refine z_len F (F.lst hli1.isList) (by rw [sizeLine_eq]; exact Nat.le_of_ble_eq_true rfl) ?_
    clear F
    intro t₁ s₂ F
    repeat ktr_rel
    refine ne_dataH .none .none rfl rfl hA.room64 ?_
    rw [show PyData.eqv .none .none = true by decide +kernel]
    repeat ktr_rel
    rename Fz _ _ _ _ _ _ _ _ _ => F
    refine z_len F (F.lst hli1.isList) (by rw [sizeLine_eq]; exact Nat.le_of_ble_eq_true rfl) ?_
    clear F
    intro t₂ s₃ F
    rw [show ([] : List Value).toArray.size = 0 from rfl]
    iterate 8 ktr_rel
    rename Fz _ _ _ _ _ _ _ _ _ => F
    refine' next _ _ _ _ (Tail.mk ?t1 ?t2 ?t3) le₁ F
    (case t1 => k_is)
    (case t2 => rfl)
    (case t3 => rfl)
  | some l =>
    rw [hc] at hv
    have hui : All2 (WayR H) ui [a :: l] := by rw [show stepOf true = 1 from rfl, hc] at hui; exact hui
    obtain ⟨u0, rfl, hu0⟩ := hui.one
    obtain ⟨l0, us0, rfl, hl0, hus0⟩ := WayR.up le₁ hu0
    by_cases hm : gAt ds a ∈ pl
    · rw [if_pos hm] at hv
      obtain ⟨lv, uv, rfl, hlv, huv⟩ := hv
      repeat ktr_rel
      rename Fz _ _ _ _ _ _ _ _ _ => F
      refine z_len F (F.lst hli1.isList) (by rw [sizeLine_eq]; exact Nat.le_of_ble_eq_true rfl) ?_
      clear F
      intro t₁ s₂ F
      rw [show ([Value.ref l0] : List Value).toArray.size = 1 from rfl]
      repeat ktr_rel
      rename Fz _ _ _ _ _ _ _ _ _ => F
      refine z_itemL (F.lst hlb1) (x := .ref y) (by simpa using hvy) ?_ (by omega) (by rw [hvb.1]; have := D.hdl; omega)
      repeat ktr_rel
      rename Fz _ _ _ _ _ _ _ _ _ => F
      refine z_itemL (F.lst hlp1.isList) (x := .ref lp0) rfl ?_ (by decide) hplen
      refine z_inI (hlp01.up F.le) hpi ?_
      rw [← ag, show (pl.any (· == gAt ds a)) = true by rw [List.any_eq_true]; exact ⟨_, hm, beq_self_eq_true _⟩]
      repeat ktr_rel
      rename Fz _ _ _ _ _ _ _ _ _ => F
      refine z_itemL (F.lst hli1.isList) (x := .ref l0) rfl ?_ (by decide) (Nat.le_of_ble_eq_true rfl)
      refine z_neI hA (hlv.up F.le) (hl0.up F.le) huv hus0 ?_
      rw [decide_eq_true rfl]
      repeat ktr_rel
      rename Fz _ _ _ _ _ _ _ _ _ => F
      refine z_len F (F.lst hli1.isList) (by rw [sizeLine_eq]; exact Nat.le_of_ble_eq_true rfl) ?_
      clear F
      intro t₂ s₃ F
      rw [show ([Value.ref l0] : List Value).toArray.size = 1 from rfl]
      iterate 8 ktr_rel
      rename Fz _ _ _ _ _ _ _ _ _ => F
      refine' next _ _ _ _ (Tail.mk ?t1 ?t2 ?t3) le₁ F
      (case t1 => k_is)
      (case t2 => rfl)
      (case t3 => rfl)
    · rw [if_neg hm] at hv
      have hv : v = .none := hv
      subst hv
      repeat ktr_rel
      rename Fz _ _ _ _ _ _ _ _ _ => F
      refine z_len F (F.lst hli1.isList) (by rw [sizeLine_eq]; exact Nat.le_of_ble_eq_true rfl) ?_
      clear F
      intro t₁ s₂ F
      rw [show ([Value.ref l0] : List Value).toArray.size = 1 from rfl]
      repeat ktr_rel
      rename Fz _ _ _ _ _ _ _ _ _ => F
      refine z_itemL (F.lst hlb1) (x := .ref y) (by simpa using hvy) ?_ (by omega) (by rw [hvb.1]; have := D.hdl; omega)
      repeat ktr_rel
      rename Fz _ _ _ _ _ _ _ _ _ => F
      refine z_itemL (F.lst hlp1.isList) (x := .ref lp0) rfl ?_ (by decide) hplen
      refine z_inI (hlp01.up F.le) hpi ?_
      rw [← ag, show (pl.any (· == gAt ds a)) = false by rw [List.any_eq_false]; intro x hx q; exact hm (by rw [← eq_of_beq q]; exact hx)]
      repeat ktr_rel
      refine ne_dataH .none .none rfl rfl hA.room64 ?_
      rw [show PyData.eqv .none .none = true by decide +kernel]
      repeat ktr_rel
      rename Fz _ _ _ _ _ _ _ _ _ => F
      refine z_len F (F.lst hli1.isList) (by rw [sizeLine_eq]; exact Nat.le_of_ble_eq_true rfl) ?_
      clear F
      intro t₂ s₃ F
      rw [show ([Value.ref l0] : List Value).toArray.size = 1 from rfl]
      iterate 8 ktr_rel
      rename Fz _ _ _ _ _ _ _ _ _ => F
      refine' next _ _ _ _ (Tail.mk ?t1 ?t2 ?t3) le₁ F
      (case t1 => k_is)
      (case t2 => rfl)
      (case t3 => rfl)
end l5

-- part L6
section l6
variable {prog : Program} {w : World} {A : Around} {E : Value → Shared → Prop} {Q : Flow → Shared → Prop} {s₀ s : Shared} {H₀ H : Heap} {env : Env} {m cm : Str → Option Value}
/-- one side's answer -/
def ansP (ds : List InfoD) (f : Int → Int) (flag mask : Int) (nss : List (List Int)) (a : Nat) (up : Bool) : Option (List Nat) := chainP (nxtP ⟨ds, fin6 f, flag, mask⟩ (stepOf up) kAround false) nss a
theorem law_s6 {P b x : Addr} {o : Obj} {a : Nat} {t tm : Tok} {ds : List InfoD} {tv pv vb vf : Value} {nss : List (List Int)} {f : Int → Int} {flag mask : Int} {L : Addr} {rest : List Stmt}
    (hT : Tail (hd.heap_1 w.params) 481 14 L rest env) (g : Gl (hd.heap_1 w.params) H) (hA : Ok A 11) (F : Fz s₀ H₀ [] env H m cm [(P, o)] s)
    (N : Nms m cm P b x a t tv pv mask tm) (D : LawS prog w H b x a ds tv pv nss f flag mask) (e1 : m "behind" = some vb) (e2 : m "before" = some vf)
    (hvb : IL H vb (toI (sideL ds f flag true a))) (hvf : IL H vf (toI (sideL ds f flag false a)))
    (next : ∀ rest' env' H' m' s', Tail (hd.heap_1 w.params) 481 16 L rest' env' → Le H H' → Nms m' cm P b x a t tv pv mask tm → m' "behind" = some vb → m' "before" = some vf → Fz s₀ H₀ [] env' H' m' cm [(P, o)] s' → wpAny (model prog w) A (execs rest' env') Q E s') : wpAny (model prog w) A (execs rest env) Q E s := by
  have hT₀ := hT
  refine' Tail.wp F hT ?k1 ?_
  (case k1 => k_is)
  clear F hT
  intro F
  repeat refine wdrop_go ?_
  refine wdrop_0 ?_
  obtain ⟨n1, n2, n3, n4, n5, n6, n7⟩ := N
  repeat ktr_rel
  rename Fz _ _ _ _ _ _ _ _ _ => F
  refine z_mkF F ?_
  clear F
  intro kd s₁ H₁ le₁ hkd F
  have hk : KT H₁ (.ref kd) kAround := ⟨kd, _, rfl, hkd, .cons _ _ (.cons _ _ (.cons _ _ .nil)), fun k hk => by unfold kAround at hk; simp at hk; rcases hk with rfl | rfl | rfl <;> decide +kernel⟩
  have g₁ := g.up le₁
  have D₁ := D.up le₁
  have hvb1 := hvb.up le₁
  have hvf1 := hvf.up le₁
  clear g D hvb hvf
  repeat ktr_rel
  rename Fz _ _ _ _ _ _ _ _ _ => F
  refine ahead_spec g₁ F.le (hA.less (by omega)) D₁.hx D₁.hds D₁.hdl D₁.ha D₁.htv ?_
  intro t₁ s₂ st1
  replace F := F.next st1
  repeat ktr_rel
  rename Fz _ _ _ _ _ _ _ _ _ => F
  refine z_mkF F ?_
  clear F
  intro T1 s₃ H₂ le₂ hT1 F
  have g₂ := g₁.up le₂
  have D₂ := D₁.up le₂
  clear g₁ D₁
  repeat ktr_rel
  rename Fz _ _ _ _ _ _ _ _ _ => F
  refine back_spec g₂ F.le (hA.less (by omega)) D₂.hx D₂.hds D₂.hdl D₂.ha D₂.htv ?_
  intro t₂ s₄ st2
  replace F := F.next st2
  repeat ktr_rel
  rename Fz _ _ _ _ _ _ _ _ _ => F
  refine z_mkF F ?_
  clear F
  intro T2 s₅ H₃ le₃ hT2 F
  have g₃ := g₂.up le₃
  have D₃ := D₂.up le₃
  clear g₂ D₂
  repeat ktr_rel
  rename Fz _ _ _ _ _ _ _ _ _ => F
  refine z_mkF F ?_
  clear F
  intro T3 s₆ H₄ le₄ hT3 F
  have g₄ := g₃.up le₄
  have D₄ := D₃.up le₄
  clear g₃ D₃
  have le14 := le₂.trans (le₃.trans le₄)
  have hvb4 := hvb1.up le14
  have hvf4 := hvf1.up le14
  have hk4 := hk.up le14
  have hT1' := le₃.trans le₄ _ _ hT1
  have hT2' := le₄ _ _ hT2
  clear hvb1 hvf1 hk hT1 hT2
  repeat ktr_rel
  rename Fz _ _ _ _ _ _ _ _ _ => F
  refine for_tupleG hA.hh F (items := [.ref T1, .ref T2].toArray) ⟨_, hT3, rfl, 0, rfl⟩ (fun i H' m' cm' ms' => ms' = [(P, o)] ∧ cm' = cm ∧ m' "pool" = some (.ref P) ∧ m' "plain" = some pv ∧ m' "mask" = some (.int mask tm) ∧ m' "scene" = some (.ref x) ∧ m' "behind" = some vb ∧ m' "before" = some vf ∧ m' "kinds" = some (.ref kd) ∧ Le H₄ H')
    ⟨rfl, rfl, by assumption, by assumption, by assumption, by assumption, by assumption, by assumption, rfl, .refl⟩ ?_ ?_
  · rintro i v I io H' m' cm' ms' s₇ E' hi hv ⟨rfl, rfl, f1, f2, f3, f4, f5, f6, f7, le'⟩ F
    have F : Fz _ _ _ _ _ _ _ [(P, o), (I, io)] _ := F
    obtain ⟨up, Tt, vl, tl, rfl, hTt, hvl⟩ : ∃ up Tt vl tl, v = .ref Tt ∧ TA H₄ Tt [vl, .int (optI (lastP (nxtP ⟨ds, fin6 f, flag, mask⟩ (stepOf up) kAround false) nss a)) tl] ∧ IL H₄ vl (toI (sideL ds f flag up a)) := by
      have hi2 : i = 0 ∨ i = 1 := by simp at hi; omega
      rcases hi2 with rfl | rfl
      · exact ⟨true, T1, _, _, by simpa using hv.symm, hT1', hvb4⟩
      · exact ⟨false, T2, _, _, by simpa using hv.symm, hT2', hvf4⟩
    obtain ⟨ans, hans⟩ : ∃ ans, ans = optI (lastP (nxtP ⟨ds, fin6 f, flag, mask⟩ (stepOf up) kAround false) nss a) := ⟨_, rfl⟩
    rw [← hans] at hTt
    have g' := g₄.up le'
    have D' := D₄.up le'
    have hk' := hk4.up le'
    have hvl' := hvl.up le'
    have hTt' := hTt.up le'
    clear g₄ D₄ hk4 hvl hTt
    have hn3 := D'.hn3
    intro K₀ hK₀
    refine z_unpack2 hA.hh F (hTt'.up F.le) rfl fun s₈ F' => ?_
    clear F
    replace F := F'
    clear F'
    refine wpAny_assign_Name ?_
    repeat ktr_rel
    refine wpAny_assign_Name ?_
    repeat ktr_rel
    rename Fz _ _ _ _ _ _ _ _ _ => F
    refine ways_spec D'.hds D'.hdl nss g' F.le (hA.less (by omega)) D'.hb D'.hpv (by omega) hk' hvl' (fun j hj => sideL_lt hj) (Nat.le_trans sideL_len D'.hdl) ?_
    intro v H₅ s₉ st hw
    rw [show waysP ds kAround 3 nss (sideL ds f flag up a) = _ from ways_chain (up := up) (inp := false) (mask := mask) D'.hds (fun pl j hj => goodOut D'.hds pl j hj) nss a D'.ha] at hw
    obtain ⟨lw, wv, rfl, hlw, hwv⟩ := hw
    replace F := F.next st
    have le₅ := st.le
    have g₅ := g'.up le₅
    clear g' st
    rw [last_chain] at hans
    cases hc : chainP (nxtP ⟨ds, fin6 f, flag, mask⟩ (stepOf up) kAround false) nss a with
    | none =>
      rw [hc] at hans hwv
      have hans : ans = -1 := hans
      subst hans
      have hw0 : wv = [] := List.length_eq_zero_iff.mp hwv.1
      subst hw0
      repeat ktr_rel
      rename Fz _ _ _ _ _ _ _ _ _ => F
      refine z_len F (F.lst hlw.isList) (by rw [sizeLine_eq]; exact Nat.le_of_ble_eq_true rfl) ?_
      clear F
      intro t₁ s₂ F
      repeat ktr_rel
      rename Fz _ _ _ _ _ _ _ _ _ => F
      repeat ktr_rel
      refine ⟨H₅, _, _, [(P, o)], F, le₅, rfl, rfl, ?_, ?_, ?_, ?_, ?_, ?_, ?_, le'.trans le₅⟩ <;> assumption
    | some l =>
      have hwl := ways_len2 ds kAround 3 nss (sideL ds f flag up a)
      rw [show waysP ds kAround 3 nss (sideL ds f flag up a) = _ from ways_chain (up := up) (inp := false) (mask := mask) D'.hds (fun pl j hj => goodOut D'.hds pl j hj) nss a D'.ha] at hwl
      rw [hc] at hans hwv hwl
      have hll : l.length = nss.length := hwl l (by simp)
      obtain ⟨u0, rfl, hu0⟩ := hwv.one
      obtain ⟨l0, us0, rfl, hl0, hus0⟩ := hu0
      have hn1 := D'.hn1
      have hus : us0.length = l.length := by rw [hus0.length]; unfold toI; rw [List.length_map]
      obtain ⟨j, hj⟩ : ∃ j, l.getLast? = some j := by
        cases l with
        | nil => simp at hll; omega
        | cons a r => exact ⟨_, List.getLast?_cons⟩
      have hans : ans = (j : Int) := by rw [hans]; show optI (some (l.getLast?.getD a)) = _; rw [hj]; rfl
      subst hans
      obtain ⟨tj, htj⟩ : ∃ tj, us0.getLast? = some (.int (j : Int) tj) := by
        rw [List.getLast?_eq_getElem?] at hj ⊢
        obtain ⟨tl, e⟩ := hus0.get (l.length - 1) (j : Int) (by unfold toI; rw [List.getElem?_map, hj]; rfl)
        exact ⟨tl, by rw [hus]; exact e⟩
      repeat ktr_rel
      rename Fz _ _ _ _ _ _ _ _ _ => F
      refine z_len F (F.lst hlw.isList) (by rw [sizeLine_eq]; exact Nat.le_of_ble_eq_true rfl) ?_
      clear F
      intro t₁ s₂ F
      rw [show ([Value.ref l0] : List Value).toArray.size = 1 from rfl]
      repeat ktr_rel
      rename Fz _ _ _ _ _ _ _ _ _ => F
      refine z_itemL (F.lst hlw.isList) (x := .ref l0) rfl ?_ (by decide) (Nat.le_of_ble_eq_true rfl)
      repeat ktr_rel
      rename Fz _ _ _ _ _ _ _ _ _ => F
      refine z_itemN1 (F.lst hl0.isList) htj (by omega) ?_
      repeat ktr_rel
      refine (if_neg (by simp)).mpr ?_
      repeat ktr_rel
      rename Fz _ _ _ _ _ _ _ _ _ => F
      repeat ktr_rel
      refine ⟨H₅, _, _, [(P, o)], F, le₅, rfl, rfl, ?_, ?_, ?_, ?_, ?_, ?_, ?_, le'.trans le₅⟩ <;> assumption
  · rintro H' m' cm' ms' s₇ ⟨rfl, rfl, f1, f2, f3, f4, f5, f6, f7, le'⟩ F
    ktr_rel
    refine' next _ _ _ _ _ (Tail.mk ?t1 ?t2 ?t3) (le₁.trans (st1.le.trans (le₂.trans (st2.le.trans (le₃.trans (le₄.trans le')))))) ⟨f1, f2, f3, f4, n5, n6, n7⟩ f5 f6 F
    (case t1 => k_is)
    (case t2 => rfl)
    (case t3 => rfl)
end l6

-- part L7
section l7
variable {prog : Program} {w : World} {A : Around} {E : Value → Shared → Prop} {Q : Flow → Shared → Prop} {s₀ s : Shared} {H₀ H : Heap} {env : Env} {m cm : Str → Option Value}
theorem law_s7 {P b x : Addr} {o : Obj} {a : Nat} {t tm : Tok} {ds : List InfoD} {tv pv vb vf : Value} {nss : List (List Int)} {f : Int → Int} {flag mask : Int} {L : Addr} {rest : List Stmt}
    (hT : Tail (hd.heap_1 w.params) 481 16 L rest env) (g : Gl (hd.heap_1 w.params) H) (hA : Ok A 11) (F : Fz s₀ H₀ [] env H m cm [(P, o)] s)
    (N : Nms m cm P b x a t tv pv mask tm) (D : LawS prog w H b x a ds tv pv nss f flag mask) (e1 : m "behind" = some vb) (e2 : m "before" = some vf)
    (next : ∀ rest' env' H' s', Tail (hd.heap_1 w.params) 481 17 L rest' env' → Le H H' → Fz s₀ H₀ [] env' H' m cm [(P, o)] s' → wpAny (model prog w) A (execs rest' env') Q E s') : wpAny (model prog w) A (execs rest env) Q E s := by
  have hT₀ := hT
  refine' Tail.wp F hT ?k1 ?_
  (case k1 => k_is)
  clear F hT
  intro F
  repeat refine wdrop_go ?_
  refine wdrop_0 ?_
  obtain ⟨n1, n2, n3, n4, n5, n6, n7⟩ := N
  repeat ktr_rel
  rename Fz _ _ _ _ _ _ _ _ _ => F
  refine z_mkF F ?_
  clear F
  intro l1 s₁ H₁ le₁ hl1 F
  have g₁ := g.up le₁
  clear g
  repeat ktr_rel
  rename Fz _ _ _ _ _ _ _ _ _ => F
  refine ahead_spec (nss := []) g₁ F.le (hA.less (by omega)) (D.hx.up le₁) D.hds D.hdl D.ha ⟨l1, [], rfl, ⟨0, hl1⟩, All2.nil⟩ ?_
  intro t₁ s₂ st1
  replace F := F.next st1
  repeat ktr_rel
  rw [show optI (lastP (nxtP ⟨ds, fin6 f, flag, mask⟩ 1 kAround false) [] a) = (a : Int) from rfl]
  refine (if_neg (by simp)).mpr ?_
  repeat ktr_rel
  rename Fz _ _ _ _ _ _ _ _ _ => F
  refine z_mkF F ?_
  clear F
  intro T1 s₃ H₂ le₂ hT1 F
  have g₂ := g₁.up le₂
  clear g₁
  repeat ktr_rel
  rename Fz _ _ _ _ _ _ _ _ _ => F
  refine back0_spec g₂ F.le (hA.less (by omega)) hT1 ?_
  intro t₂ s₄ st2
  replace F := F.next st2
  repeat ktr_rel
  refine (if_neg (by simp)).mpr ?_
  iterate 4 ktr_rel
  rename Fz _ _ _ _ _ _ _ _ _ => F
  refine' next _ _ _ _ (Tail.mk ?t1 ?t2 ?t3) (le₁.trans (st1.le.trans (le₂.trans st2.le))) F
  (case t1 => k_is)
  (case t2 => rfl)
  (case t3 => rfl)
end l7

-- part L8
section l8
variable {prog : Program} {w : World} {A : Around} {E : Value → Shared → Prop} {Q : Flow → Shared → Prop} {s₀ s : Shared} {H₀ H : Heap} {env : Env} {m cm : Str → Option Value}
theorem head_or {us : List Value} {l : List Nat} {t : Tok} (h : IntsAre us (toI l)) : ∃ t', (us ++ [Value.int (-1) t]).toArray[(0 : Int).toNat]? = some (Value.int (optI l.head?) t') := by
  cases l with
  | nil =>
    have : us.length = 0 := h.length
    rw [List.length_eq_zero_iff.mp this]
    exact ⟨t, rfl⟩
  | cons j r =>
    obtain ⟨t', e⟩ := h.get 0 (j : Int) rfl
    refine ⟨t', ?_⟩
    cases us with
    | nil => cases e
    | cons u us =>
      have e : some u = some (Value.int (j : Int) t') := e
      exact e
theorem law_s8 {P b x : Addr} {o : Obj} {a : Nat} {t tm : Tok} {ds : List InfoD} {tv pv vb vf : Value} {nss : List (List Int)} {f : Int → Int} {flag mask : Int} {L : Addr} {rest : List Stmt}
    (hT : Tail (hd.heap_1 w.params) 481 17 L rest env) (g : Gl (hd.heap_1 w.params) H) (hA : Ok A 11) (F : Fz s₀ H₀ [] env H m cm [(P, o)] s) (ho : PoolAt o)
    (N : Nms m cm P b x a t tv pv mask tm) (D : LawS prog w H b x a ds tv pv nss f flag mask) (e1 : m "behind" = some vb) (e2 : m "before" = some vf)
    (hvb : IL H vb (toI (sideL ds f flag true a))) (hvf : IL H vf (toI (sideL ds f flag false a)))
    (hQ : ∀ s', (∃ H', St [] H₀ s₀ H' s') → Q (.ret (.bool true)) s') : wpAny (model prog w) A (execs rest env) Q E s := by
  refine' Tail.wp F hT ?k1 ?_
  (case k1 => k_is)
  clear F hT
  intro F
  repeat refine wdrop_go ?_
  refine wdrop_0 ?_
  obtain ⟨n1, n2, n3, n4, n5, n6, n7⟩ := N
  obtain ⟨ab, lb, vs, Ib, hrow, hlb, hvs⟩ := D.hb
  have hR0 : RowAt H b lb vs ds ab := ⟨Ib, hrow, hlb, hvs⟩
  clear Ib hrow hlb hvs
  obtain ⟨l1, us, rfl, hl1, hus⟩ := hvb
  obtain ⟨l2, us2, rfl, hl2, hus2⟩ := hvf
  have hdl := D.hdl
  have hsl : us.length = (sideL ds f flag true a).length := by rw [hus.length]; unfold toI; rw [List.length_map]
  have hsl2 : us2.length = (sideL ds f flag false a).length := by rw [hus2.length]; unfold toI; rw [List.length_map]
  have hsn := sideL_len (ds := ds) (f := f) (flag := flag) (up := true) (a := a)
  have hsn2 := sideL_len (ds := ds) (f := f) (flag := flag) (up := false) (a := a)
  repeat ktr_rel
  refine z_compA (by rfl) rfl (by decide) rfl (by decide) rfl ?_
  repeat ktr_rel
  rename Fz _ _ _ _ _ _ _ _ _ => F
  refine ready_list hA.hh F (items := us.toArray) hl1.isList ⟨by intro n c h; simp at h; obtain ⟨rfl, rfl⟩ := h; exact ⟨rfl, rfl⟩, by simp⟩ (by rw [List.size_toArray, sizeLine_eq]; omega)
    (fun i ys H' ms' => ms' = [(P, o)] ∧ IntsAre ys (toI (((sideL ds f flag true a).take i).filter fun j => kAt ds j == ""))) ⟨rfl, .nil⟩ ?_ ?_
  · rintro i v ys H' ms' s₂ C mC E' hi hv ⟨rfl, hys⟩ le' e3 F
    obtain ⟨q, tq, rfl, hq⟩ := toI_at hus (by simpa using hv)
    have hql : q < ds.length := sideL_lt (List.mem_of_getElem? hq)
    have g' := g.up le'
    clear g
    have hR := RowAt.up le' hR0
    have I3 := hR.I
    have row3 := hR.row
    obtain ⟨vi, hvi, hin⟩ := hR.all.get (List.getElem?_eq_getElem hql)
    obtain ⟨y, ay, tt1, tt2, tt3, rfl, Iy, hg1, hg2, hg3⟩ := hin
    obtain ⟨ag, ak, am⟩ := at_info hql
    repeat ktr_rel
    rename Fz _ _ _ _ _ _ _ _ _ => F
    refine z_itemL (F.lst hR.lst) (x := .ref y) (by simpa using hvi) ?_ (by omega) (by rw [hR.all.1]; omega)
    repeat ktr_rel
    rw [← ak]
    refine z_if (fun hb2 => ?_) (fun hb2 => ?_)
    · repeat ktr_rel
      rename Fz _ _ _ _ _ _ _ _ _ => F
      repeat ktr_rel
      refine ⟨H', _, F, rfl, rfl, ?_⟩
      rw [filt_yes hq hb2, toI_snoc]
      exact IntsAre.snoc hys _ _
    · repeat ktr_rel
      rename Fz _ _ _ _ _ _ _ _ _ => F
      repeat ktr_rel
      refine ⟨H', _, F, rfl, rfl, ?_⟩
      rw [filt_no hq (Bool.eq_false_iff.mpr hb2)]
      exact hys
  · rintro D1 C ys H' ms' nn co mC s₂ hD1 hC ⟨rfl, hys⟩ le' - F hN
    refine z_endA (by rfl) hC F hN fun s'' hN' hF => ⟨mC, hN', fun h' hs => ?_⟩
    clear F
    have F := hF h' hs
    clear hF
    rw [List.size_toArray, hsl, List.take_length] at hys
    have g₁ := g.up le'
    clear g
    have hR1 := RowAt.up le' hR0
    clear hR0
    have hl2' := hl2.up le'
    clear hl1 hl2
    obtain ⟨H₁, le₁, hD1, G⟩ := F.freeze hD1
    clear F
    have g₂ := g₁.up le₁
    clear g₁
    have hR2 := RowAt.up le₁ hR1
    clear hR1
    have hl2 := hl2'.up le₁
    clear hl2'
    have hLD : LA H₁ D1 ys := ⟨_, hD1⟩
    clear hD1
    repeat ktr_rel
    refine z_compA (by rfl) rfl (by decide) rfl (by decide) rfl ?_
    repeat ktr_rel
    rename Fz _ _ _ _ _ _ _ _ _ => F
    refine ready_list hA.hh F (items := us2.toArray) hl2.isList ⟨by intro n c h; simp at h; obtain ⟨rfl, rfl⟩ := h; exact ⟨rfl, rfl⟩, by simp⟩ (by rw [List.size_toArray, sizeLine_eq]; omega)
      (fun i ys H' ms' => ms' = [(P, o)] ∧ IntsAre ys (toI (((sideL ds f flag false a).take i).filter fun j => kAt ds j == ""))) ⟨rfl, .nil⟩ ?_ ?_
    · rintro i v ys2 H₃ ms' s₃ C mC E' hi hv ⟨rfl, hys2⟩ le₃ e3 F
      obtain ⟨q, tq, rfl, hq⟩ := toI_at hus2 (by simpa using hv)
      have hql : q < ds.length := sideL_lt (List.mem_of_getElem? hq)
      have g' := g₂.up le₃
      clear g₂
      have hR := RowAt.up le₃ hR2
      have I3 := hR.I
      have row3 := hR.row
      obtain ⟨vi, hvi, hin⟩ := hR.all.get (List.getElem?_eq_getElem hql)
      obtain ⟨y, ay, tt1, tt2, tt3, rfl, Iy, hg1, hg2, hg3⟩ := hin
      obtain ⟨ag, ak, am⟩ := at_info hql
      repeat ktr_rel
      rename Fz _ _ _ _ _ _ _ _ _ => F
      refine z_itemL (F.lst hR.lst) (x := .ref y) (by simpa using hvi) ?_ (by omega) (by rw [hR.all.1]; omega)
      repeat ktr_rel
      rw [← ak]
      refine z_if (fun hb2 => ?_) (fun hb2 => ?_)
      · repeat ktr_rel
        rename Fz _ _ _ _ _ _ _ _ _ => F
        repeat ktr_rel
        refine ⟨H₃, _, F, rfl, rfl, ?_⟩
        rw [filt_yes hq hb2, toI_snoc]
        exact IntsAre.snoc hys2 _ _
      · repeat ktr_rel
        rename Fz _ _ _ _ _ _ _ _ _ => F
        repeat ktr_rel
        refine ⟨H₃, _, F, rfl, rfl, ?_⟩
        rw [filt_no hq (Bool.eq_false_iff.mpr hb2)]
        exact hys2
    · rintro D2 C ys2 H₃ ms' nn2 co mC s₃ hD2 hC ⟨rfl, hys2⟩ le₃ - F hN
      refine z_endA (by rfl) hC F hN fun s'' hN' hF => ⟨mC, hN', fun h' hs => ?_⟩
      clear F
      have F := hF h' hs
      clear hF
      rw [List.size_toArray, hsl2, List.take_length] at hys2
      have g₃ := g₂.up le₃
      clear g₂ hR2 hl2
      obtain ⟨H₄, le₄, hD2, G⟩ := F.freeze hD2
      clear F
      have g₄ := g₃.up le₄
      clear g₃
      have hLD2 : LA H₄ D2 ys2 := ⟨_, hD2⟩
      have hLD1 := hLD.up (le₃.trans le₄)
      clear hD2 hLD
      have hx := D.hx.up (le'.trans (le₁.trans (le₃.trans le₄)))
      have hyl : ys.length ≤ 7 := by
        rw [hys.length]
        unfold toI
        rw [List.length_map]
        exact Nat.le_trans (List.length_filter_le _ _) (by omega)
      have hyl2 : ys2.length ≤ 7 := by
        rw [hys2.length]
        unfold toI
        rw [List.length_map]
        exact Nat.le_trans (List.length_filter_le _ _) (by omega)
      repeat ktr_rel
      rename Fz _ _ _ _ _ _ _ _ _ => F
      refine next_spec g₄ F.le (hA.less (by omega)) hx D.hds hdl D.ha ?_
      intro t₁ s₄ st
      replace F := F.next st
      rw [show nearP (fun j => ignP flag (fin6 f) (gAt ds j)) (badK ds kAround) (remL ds.length 1 ((a : Int) + 1)) = _ from near_head (up := true) D.hds D.ha]
      repeat ktr_rel
      rename Fz _ _ _ _ _ _ _ _ _ => F
      refine z_mk F ?_
      clear F
      intro T s₅ hT F
      repeat ktr_rel
      rename Fz _ _ _ _ _ _ _ _ _ => F
      refine z_addL (hLD1.up F.le) ⟨0, F.m0⟩ (by simp; omega) ?_
      replace F := F.forget (pre := [])
      refine z_mkF F ?_
      clear F
      intro l3 s₆ H₅ le₅ hl3 F
      have g₅ := g₄.up le₅
      clear g₄
      repeat ktr_rel
      rename Fz _ _ _ _ _ _ _ _ _ => F
      obtain ⟨th, hth⟩ := head_or (t := _) hys
      refine z_itemL (F.lst (show LA _ l3 _ from ⟨_, hl3⟩).isList) hth ?_ (by decide) (by simp; omega)
      repeat ktr_rel
      refine (if_neg (by simp [sideL])).mpr ?_
      repeat ktr_rel
      rename Fz _ _ _ _ _ _ _ _ _ => F
      refine before_spec g₅ F.le (hA.less (by omega)) (hx.up (st.le.trans le₅)) D.hds hdl D.ha ?_
      intro t₂ s₇ st2
      replace F := F.next st2
      rw [show nearP (fun j => ignP flag (fin6 f) (gAt ds j)) (badK ds kAround) (remL ds.length (-1) ((a : Int) + -1)) = _ from near_head (up := false) D.hds D.ha]
      repeat ktr_rel
      rename Fz _ _ _ _ _ _ _ _ _ => F
      refine z_mk F ?_
      clear F
      intro T2 s₈ hT2 F
      repeat ktr_rel
      rename Fz _ _ _ _ _ _ _ _ _ => F
      refine z_addL (((hLD2.up st.le).up (le₅.trans st2.le)).up F.le) ⟨0, F.m0⟩ (by simp; omega) ?_
      replace F := F.forget (pre := [])
      refine z_mkF F ?_
      clear F
      intro l4 s₉ H₆ le₆ hl4 F
      have g₆ := (g₅.up st2.le).up le₆
      clear g₅
      repeat ktr_rel
      rename Fz _ _ _ _ _ _ _ _ _ => F
      obtain ⟨th2, hth2⟩ := head_or (t := _) hys2
      refine z_itemL (F.lst (show LA _ l4 _ from ⟨_, hl4⟩).isList) hth2 ?_ (by decide) (by simp; omega)
      repeat ktr_rel
      refine (if_neg (by simp [sideL])).mpr ?_
      repeat ktr_rel
      rename Fz _ _ _ _ _ _ _ _ _ => F
      refine pieces_spec g₆ F.le (hA.less (by omega)) F.m0 (F.off _ (Fz.mem_muts (pre := []))) ho ?_
      rintro s₁₀ ⟨H₇, st3⟩
      have hP₀ : s₀.heap.get? P = none := (F.wr P (Fz.mem_muts (pre := []))).resolve_left (by simp)
      repeat ktr_rel
      exact hQ _ ⟨H₇, F.st.into st3 hP₀⟩
end l8

-- part LW
section lw
variable {prog : Program} {w : World} {A : Around} {E Q : Value → Shared → Prop} {s : Shared} {H : Heap}
theorem law_code {S : Addr} {vs : List Value} {ns : List Int} {R : Result → Shared → Prop} (g : Gl (hd.heap_1 w.params) H) (le : Le H s.heap) (hA : Ok A 12) (hS : H.IsList S vs.toArray) (hi : IntsAre vs ns) (hlen : ns.length ≤ 63)
    (h : ∀ s', (∃ H', St [] H s H' s') → R (.ok (.ret (.bool true))) s') :
    codeAny (model prog w) A (.call (.ref 481) ⟨[.ref S], []⟩) R s := by
  refine' code_enter (ms := []) (binds := [("script", .ref S)]) g le (by simp) (by simp) ?k6 ?k7 hA.room ?kb ?kk ?kn ?_ ?c1 ?c2 ?c3
  tb_rel
  intro L s₁ F
  repeat ktr_rel
  refine z_compA (by rfl) rfl (by decide) rfl (by decide) rfl ?_
  repeat ktr_rel
  rename Fz _ _ _ _ _ _ _ _ _ => F
  refine z_mk F ?_
  clear F
  intro T s₂ hT F
  repeat ktr_rel
  rename Fz _ _ _ _ _ _ _ _ _ => F
  have hvl : vs.length ≤ 63 := by rw [hi.length]; exact hlen
  refine z_slice (items := vs) (F.lst hS) F.m0 .none (.int _ _) .none (by decide) (by omega) ?_
  have hpi := slice_ints_uptoW hi (y := 24) (by decide)
  generalize slicePick vs.toArray none (some 24) none = pk at hpi
  obtain ⟨pk⟩ := pk
  replace F := F.forget (pre := [])
  refine z_mkF F ?_
  clear F
  intro D s₃ H₁ le₁ hD F
  have g₁ := g.up le₁
  clear g
  have hDL : H₁.IsList D (List.toArray pk) := ⟨_, hD, rfl, _, rfl⟩
  have hpl : pk.length ≤ 24 := by
    have hp2 : pk.length = (ns.take 24).length := hpi.length
    rw [List.length_take] at hp2
    omega
  refine ready_list hA.hh F hDL ⟨by intro n c h; simp at h, by simp⟩ (by rw [List.size_toArray, sizeLine_eq]; omega)
    (fun i ys H' ms' => ms' = [] ∧ ys.length ≤ i ∧ ∀ v ∈ ys, ∃ k t, v = .int k t) ⟨rfl, by simp, by simp⟩ ?_ ?_
  · rintro i v ys H' ms' s₄ C mC E' hi' hv ⟨rfl, hyl, hyi⟩ le' e1 F
    have hv' : pk[i]? = some v := by simpa using hv
    obtain ⟨k, t, rfl, -⟩ := hpi.at i v hv'
    have g' := g₁.up le'
    clear g₁
    repeat ktr_rel
    rename Fz _ _ _ _ _ _ _ _ _ => F
    refine call_abs_int fun u tk => ?_
    replace F := F.toks tk
    repeat ktr_rel
    rename Fz _ _ _ _ _ _ _ _ _ => F
    refine z_pow F (by decide) (by decide) ?_
    clear F
    intro t2 s₅ F
    refine z_mod F (by decide) ?_
    clear F
    intro t3 s₆ F
    repeat ktr_rel
    refine ⟨H', [], F, rfl, rfl, by simp; omega, ?_⟩
    intro v hv
    rcases List.mem_append.mp hv with q | q
    · exact hyi v q
    · rw [List.mem_singleton.mp q]; exact ⟨_, _, rfl⟩
  · rintro D2 C ys H' ms' nn co mC s₄ hD2 hC ⟨rfl, hyl, hyi⟩ le' - F hN
    refine z_endA (by rfl) hC F hN fun s'' hN' hF => ⟨mC, hN', fun h' hs => ?_⟩
    clear F
    have F := hF h' hs
    clear hF
    have g₂ := g₁.up le'
    clear g₁
    repeat ktr_rel
    rename Fz _ _ _ _ _ _ _ _ _ => F
    have hpo : PoolAt (listOf (List.toArray ys) nn) := ⟨_, _, rfl, by rw [List.size_toArray]; rw [List.size_toArray] at hyl; omega, fun i v hv => hyi v (List.mem_of_getElem? (by simpa using hv))⟩
    generalize listOf (List.toArray ys) nn = o₀ at F hpo
    clear hyl hyi
    refine z_take (pre := []) F g₂ (hA.deeper.less (by omega)) hpo (by decide) (by decide) ?_
    clear F hpo
    intro k t₁ o₁ s₅ k0 k1 ho₁ F
    repeat ktr_rel
    rename Fz _ _ _ _ _ _ _ _ _ => F
    obtain ⟨n, hn⟩ : ∃ n : Nat, 1 + k = (n : Int) := ⟨(1 + k).toNat, by omega⟩
    rw [hn]
    have hn7 : 1 ≤ n ∧ n ≤ 7 := by omega
    clear hn k0 k1 k
    refine buffer_spec g₂ F.le (hA.deeper.less (by omega)) F.m0 (F.off _ (Fz.mem_muts (pre := []))) ho₁ hn7.2 ?_
    intro ds b H₃ s₆ o₂ hdl hds st ho₂' ho₂ hb
    replace F := F.put (pre := []) st ho₂'
    have g₃ := g₂.up st.le
    clear g₂ st ho₂' ho₁
    subst hdl
    repeat ktr_rel
    refine Assign_Tuple ?_
    repeat ktr_rel
    rename Fz _ _ _ _ _ _ _ _ _ => F
    refine z_take (pre := []) F g₃ (hA.deeper.less (by omega)) ho₂ (by decide) (by decide) ?_
    clear F ho₂
    intro k t₂ o₃ s₇ k0 k1 ho₃ F
    repeat ktr_rel
    rename Fz _ _ _ _ _ _ _ _ _ => F
    obtain ⟨n, hn⟩ : ∃ n : Nat, 1 + k = (n : Int) := ⟨(1 + k).toNat, by omega⟩
    rw [hn]
    have hn3 : 1 ≤ n ∧ n ≤ 3 := by omega
    clear hn k0 k1 k
    refine tests_spec g₃ F.le (hA.deeper.less (by omega)) F.m0 (F.off _ (Fz.mem_muts (pre := []))) ho₃ hn3.2 ?_
    intro T1 tv pv nss H₄ s₈ o₄ hnl hpl st ho₄' ho₄ hT1 htv hpv
    replace F := F.put (pre := []) st ho₄'
    have g₄ := g₃.up st.le
    have hb₄ := hb.up st.le
    clear g₃ hb st ho₄' ho₃
    subst hnl
    refine z_unpack2 hA.hh F (hT1.up F.le) rfl fun s₉ F' => ?_
    clear F hT1
    replace F := F'
    clear F'
    refine wpAny_assign_Name ?_
    repeat ktr_rel
    refine wpAny_assign_Name ?_
    repeat ktr_rel
    rename Fz _ _ _ _ _ _ _ _ _ => F
    refine z_take (pre := []) F g₄ (hA.deeper.less (by omega)) ho₄ (by decide) (by decide) ?_
    clear F ho₄
    intro k t₂ o₅ s₁₀ k0 k1 ho₅ F
    obtain ⟨ab, lb, vb, Ib, hrow, hlb, hvb⟩ := id hb₄
    repeat ktr_rel
    rename Fz _ _ _ _ _ _ _ _ _ => F
    refine z_len F (F.lst hlb) (by rw [List.size_toArray, hvb.1, sizeLine_eq]; omega) ?_
    clear F
    intro t₃ s₁₁ F
    rw [List.size_toArray, hvb.1]
    iterate 3 ktr_rel
    rename Fz _ _ _ _ _ _ _ _ _ => F
    have hfm : k.fmod (ds.length : Int) = k % (ds.length : Int) := Int.fmod_eq_emod_of_nonneg _ (by omega)
    have hm0 : 0 ≤ k % (ds.length : Int) := Int.emod_nonneg _ (by omega)
    have hm1 : k % (ds.length : Int) < ds.length := Int.emod_lt_of_pos _ (by omega)
    obtain ⟨a, ha⟩ : ∃ a : Nat, k.fmod (ds.length : Int) = (a : Int) := ⟨(k.fmod (ds.length : Int)).toNat, by omega⟩
    rw [ha] at F
    have had : a < ds.length := by omega
    clear hm0 hm1 hfm ha
    refine' law_s2 (a := a) (Tail.mk ?t1 ?t2 ?t3) g₄ hA.deeper F ho₅ rfl rfl rfl rfl rfl ⟨hb₄, hds, hn7.2, had, htv, hpv, hpl, hn3.1, hn3.2⟩ ?_
    (case t1 => k_is)
    (case t2 => rfl)
    (case t3 => rfl)
    clear F
    intro rest₂ env₂ H₅ m₅ s₅ x y d o₆ f flag mask tm hT₂ le₂ ho₆ N₂ e₁ e₂ D₂ hy₂ hd₂ F
    have g₅ := g₄.up le₂
    clear g₄
    refine law_s3 hT₂ g₅ hA.deeper F N₂ D₂ ?_
    clear F
    intro rest₃ env₃ H₆ cm₆ s₆ hT₃ le₃ N₃ F
    have g₆ := g₅.up le₃
    clear g₅
    have D₃ := D₂.up le₃
    refine law_s4 hT₃ g₆ hA.deeper F N₃ D₃ e₁ e₂ (hy₂.up le₃) (hd₂.up le₃) ?_
    clear F
    intro rest₄ env₄ H₇ m₇ s₇ vb vf vi hT₄ le₄ N₄ e₃ e₄ e₅ hvb₄ hvf₄ hvi₄ F
    have g₇ := g₆.up le₄
    clear g₆
    have D₄ := D₃.up le₄
    refine law_s5 hT₄ g₇ hA.deeper F N₄ D₄ e₅ hvi₄ ?_
    clear F
    intro rest₅ env₅ H₈ s₈ hT₅ le₅ F
    have g₈ := g₇.up le₅
    clear g₇
    have D₅ := D₄.up le₅
    refine law_s6 hT₅ g₈ hA.deeper F N₄ D₅ e₃ e₄ (hvb₄.up le₅) (hvf₄.up le₅) ?_
    clear F
    intro rest₆ env₆ H₉ m₉ s₉ hT₆ le₆ N₆ e₆ e₇ F
    have g₉ := g₈.up le₆
    clear g₈
    have D₆ := D₅.up le₆
    refine law_s7 hT₆ g₉ hA.deeper F N₆ D₆ e₆ e₇ ?_
    clear F
    intro rest₇ env₇ H₁₀ s₁₀ hT₇ le₇ F
    have le57 := le₅.trans (le₆.trans le₇)
    exact law_s8 hT₇ (g₉.up le₇) hA.deeper F ho₆ N₆ (D₆.up le₇) e₆ e₇ (hvb₄.up le57) (hvf₄.up le57) h
end lw

-- part TP
-- the head's tool lays a twin of each object of the written heap, under names of its own below this theorem's name; the twins of the long lists alone fill 70 MB. Where a name is taken it goes on without the twin.
theorem holds.tw10061326939861387809 : True := trivial
theorem holds.tw10066566674380323332 : True := trivial
theorem holds.tw10240100896771907615 : True := trivial
theorem holds.tw10269081998898121243 : True := trivial
theorem holds.tw10274680400919065884 : True := trivial
theorem holds.tw10280545108713110612 : True := trivial
theorem holds.tw10292701021901942622 : True := trivial
theorem holds.tw1032644102275906610 : True := trivial
theorem holds.tw10491065262344570346 : True := trivial
theorem holds.tw10494946348260405530 : True := trivial
theorem holds.tw10531532615022067580 : True := trivial
theorem holds.tw10587580826675096554 : True := trivial
theorem holds.tw10595842591828190984 : True := trivial
theorem holds.tw10627527101882312309 : True := trivial
theorem holds.tw10637851664137882224 : True := trivial
theorem holds.tw10675174832548182787 : True := trivial
theorem holds.tw10677865647760817919 : True := trivial
theorem holds.tw10684964147190113176 : True := trivial
theorem holds.tw10698829266838348154 : True := trivial
theorem holds.tw10705619171732726748 : True := trivial
theorem holds.tw10705761992013847755 : True := trivial
theorem holds.tw10726778698580467152 : True := trivial
theorem holds.tw10817008591213730988 : True := trivial
theorem holds.tw10824115321126796680 : True := trivial
theorem holds.tw10853043219271619230 : True := trivial
theorem holds.tw10859938921441162988 : True := trivial
theorem holds.tw10876536743886354276 : True := trivial
theorem holds.tw10885752782291721163 : True := trivial
theorem holds.tw10894570999934473159 : True := trivial
theorem holds.tw1092734292537931370 : True := trivial
theorem holds.tw1095465085569150570 : True := trivial
theorem holds.tw10981351503976158137 : True := trivial
theorem holds.tw11021402016762074336 : True := trivial
theorem holds.tw11037822914523747621 : True := trivial
theorem holds.tw11040456503202229835 : True := trivial
theorem holds.tw11111472982789046935 : True := trivial
theorem holds.tw11188634580013471280 : True := trivial
theorem holds.tw11210861575573996130 : True := trivial
theorem holds.tw11223116819087169764 : True := trivial
theorem holds.tw11311999394344832113 : True := trivial
theorem holds.tw11319453509113102234 : True := trivial
theorem holds.tw11322816463052944642 : True := trivial
theorem holds.tw11341941285841758863 : True := trivial
theorem holds.tw11379536335273661636 : True := trivial
theorem holds.tw11413208387583891290 : True := trivial
theorem holds.tw11450275943994455990 : True := trivial
theorem holds.tw11460592395852859821 : True := trivial
theorem holds.tw11502601298335438083 : True := trivial
theorem holds.tw11569915684508697678 : True := trivial
theorem holds.tw11612728935029869629 : True := trivial
theorem holds.tw11619669790576578751 : True := trivial
theorem holds.tw11750193621415288269 : True := trivial
theorem holds.tw11822188140940861840 : True := trivial
theorem holds.tw11866763835798034582 : True := trivial
theorem holds.tw11968577826497805164 : True := trivial
theorem holds.tw12135579543755162760 : True := trivial
theorem holds.tw1213666046027356511 : True := trivial
theorem holds.tw12158069946340328395 : True := trivial
theorem holds.tw12160635655254385198 : True := trivial
theorem holds.tw12354433232887552844 : True := trivial
theorem holds.tw12468101337765408714 : True := trivial
theorem holds.tw12528141070781557109 : True := trivial
theorem holds.tw12540800736699631050 : True := trivial
theorem holds.tw12542415522573167287 : True := trivial
theorem holds.tw12553914923479104506 : True := trivial
theorem holds.tw1255485627580398868 : True := trivial
theorem holds.tw12563481999192008768 : True := trivial
theorem holds.tw12582165548729261026 : True := trivial
theorem holds.tw12629177860411813126 : True := trivial
theorem holds.tw12632932662738783937 : True := trivial
theorem holds.tw12633084752571091873 : True := trivial
theorem holds.tw12657093848384798476 : True := trivial
theorem holds.tw12698916279152862973 : True := trivial
theorem holds.tw12733908048491186811 : True := trivial
theorem holds.tw12762722769849151566 : True := trivial
theorem holds.tw12774209864397607762 : True := trivial
theorem holds.tw12788872388335264594 : True := trivial
theorem holds.tw12808162357026388105 : True := trivial
theorem holds.tw12870647732520690006 : True := trivial
theorem holds.tw12941468149822085856 : True := trivial
theorem holds.tw13002855754428957212 : True := trivial
theorem holds.tw13150661809386230508 : True := trivial
theorem holds.tw1316056555746827224 : True := trivial
theorem holds.tw13200177327426563521 : True := trivial
theorem holds.tw13208604148985916543 : True := trivial
theorem holds.tw13222035019132090745 : True := trivial
theorem holds.tw13281364814482169325 : True := trivial
theorem holds.tw13306226422529918579 : True := trivial
theorem holds.tw13334661261001831826 : True := trivial
theorem holds.tw13338651292558784369 : True := trivial
theorem holds.tw13341946137322399123 : True := trivial
theorem holds.tw13356387430892511905 : True := trivial
theorem holds.tw13370180491053348 : True := trivial
theorem holds.tw13373784697917265674 : True := trivial
theorem holds.tw13384883100587833847 : True := trivial
theorem holds.tw13416111870119765123 : True := trivial
theorem holds.tw13563289320671947111 : True := trivial
theorem holds.tw13564983018704479910 : True := trivial
theorem holds.tw1357463484097335404 : True := trivial
theorem holds.tw13602253286356535353 : True := trivial
theorem holds.tw13676757877788619591 : True := trivial
theorem holds.tw13758948915013449397 : True := trivial
theorem holds.tw1382383790286775375 : True := trivial
theorem holds.tw13860560629476652642 : True := trivial
theorem holds.tw1389151227800987198 : True := trivial
theorem holds.tw13942211991455542721 : True := trivial
theorem holds.tw13945929957867325323 : True := trivial
theorem holds.tw13980644296350529377 : True := trivial
theorem holds.tw14040500308302212198 : True := trivial
theorem holds.tw14062913937729191461 : True := trivial
theorem holds.tw14083834280242248106 : True := trivial
theorem holds.tw14085268106739128817 : True := trivial
theorem holds.tw14149781006570564392 : True := trivial
theorem holds.tw14205006904943715905 : True := trivial
theorem holds.tw14247145606103189434 : True := trivial
theorem holds.tw14265980490254392165 : True := trivial
theorem holds.tw14271935136423247726 : True := trivial
theorem holds.tw14374762386000251392 : True := trivial
theorem holds.tw1438057683635843531 : True := trivial
theorem holds.tw14387954076880322906 : True := trivial
theorem holds.tw14394845925615563878 : True := trivial
theorem holds.tw14400433609042604536 : True := trivial
theorem holds.tw14432740918813763817 : True := trivial
theorem holds.tw14456359579513077766 : True := trivial
theorem holds.tw1446027475299390936 : True := trivial
theorem holds.tw14533596452844920548 : True := trivial
theorem holds.tw14571696787620697854 : True := trivial
theorem holds.tw14607219995997415800 : True := trivial
theorem holds.tw14622814637172382776 : True := trivial
theorem holds.tw1466284255255076664 : True := trivial
theorem holds.tw14691085348537605332 : True := trivial
theorem holds.tw14747351113905286367 : True := trivial
theorem holds.tw14777700561071354170 : True := trivial
theorem holds.tw1477864382951527211 : True := trivial
theorem holds.tw14786066558164337950 : True := trivial
theorem holds.tw14856189802965030758 : True := trivial
theorem holds.tw14947864908287233490 : True := trivial
theorem holds.tw14977296931134136204 : True := trivial
theorem holds.tw15043986215568586124 : True := trivial
theorem holds.tw151567797773009622 : True := trivial
theorem holds.tw15203487316939043196 : True := trivial
theorem holds.tw15216533652830951187 : True := trivial
theorem holds.tw15228004617427520810 : True := trivial
theorem holds.tw15305512045591798990 : True := trivial
theorem holds.tw15326264675407861456 : True := trivial
theorem holds.tw15349486494167490861 : True := trivial
theorem holds.tw15356600547250028879 : True := trivial
theorem holds.tw15383290158734973844 : True := trivial
theorem holds.tw15402825562841796884 : True := trivial
theorem holds.tw15421342739227911939 : True := trivial
theorem holds.tw15462992800728643659 : True := trivial
theorem holds.tw15464432741802594518 : True := trivial
theorem holds.tw154871700347349385 : True := trivial
theorem holds.tw15493915963290111440 : True := trivial
theorem holds.tw1552857426587298226 : True := trivial
theorem holds.tw15566814792845459997 : True := trivial
theorem holds.tw15654153127513851752 : True := trivial
theorem holds.tw15659084048362614264 : True := trivial
theorem holds.tw1569810199879761147 : True := trivial
theorem holds.tw15710039338938236864 : True := trivial
theorem holds.tw15733542881966949079 : True := trivial
theorem holds.tw15750308709622187472 : True := trivial
theorem holds.tw15785218014132313688 : True := trivial
theorem holds.tw15814798929938293467 : True := trivial
theorem holds.tw15941426914562918035 : True := trivial
theorem holds.tw15969937429085165904 : True := trivial
theorem holds.tw15985840036639034899 : True := trivial
theorem holds.tw16034146489351607153 : True := trivial
theorem holds.tw16035096773351161327 : True := trivial
theorem holds.tw16049930973857864354 : True := trivial
theorem holds.tw16141144775947785660 : True := trivial
theorem holds.tw16179787414501680475 : True := trivial
theorem holds.tw16239030619513480838 : True := trivial
theorem holds.tw16260029586006496120 : True := trivial
theorem holds.tw16281141667863336784 : True := trivial
theorem holds.tw1639197193820686003 : True := trivial
theorem holds.tw16461013251600362008 : True := trivial
theorem holds.tw16478504620199068264 : True := trivial
theorem holds.tw16497969686579978388 : True := trivial
theorem holds.tw16532224993992427823 : True := trivial
theorem holds.tw16568243084613897719 : True := trivial
theorem holds.tw16569799976186059295 : True := trivial
theorem holds.tw16725066886706607050 : True := trivial
theorem holds.tw1672651397029140864 : True := trivial
theorem holds.tw16740147826971877517 : True := trivial
theorem holds.tw16796854770986717008 : True := trivial
theorem holds.tw16801115162389100519 : True := trivial
theorem holds.tw16887932952891968693 : True := trivial
theorem holds.tw16898140867199733807 : True := trivial
theorem holds.tw1692041494862269998 : True := trivial
theorem holds.tw17040301576142915119 : True := trivial
theorem holds.tw17094759248423572775 : True := trivial
theorem holds.tw17096001632197288867 : True := trivial
theorem holds.tw17148229171239856432 : True := trivial
theorem holds.tw17180457848445815676 : True := trivial
theorem holds.tw172445538289417760 : True := trivial
theorem holds.tw17294395744611713098 : True := trivial
theorem holds.tw17450472940649059298 : True := trivial
theorem holds.tw17476224472650253806 : True := trivial
theorem holds.tw17500814259130102135 : True := trivial
theorem holds.tw17533166617710000329 : True := trivial
theorem holds.tw17549760099613038055 : True := trivial
theorem holds.tw17551835440721493442 : True := trivial
theorem holds.tw17591727778206626035 : True := trivial
theorem holds.tw17597196502641442581 : True := trivial
theorem holds.tw17631178891982236634 : True := trivial
theorem holds.tw17647985033660283594 : True := trivial
theorem holds.tw17779192219718171531 : True := trivial
theorem holds.tw17779774989671706653 : True := trivial
theorem holds.tw17822619038779606285 : True := trivial
theorem holds.tw17856180979147524769 : True := trivial
theorem holds.tw18020473825885896052 : True := trivial
theorem holds.tw18078616723997116376 : True := trivial
theorem holds.tw18145382148040430673 : True := trivial
theorem holds.tw18173914834931495973 : True := trivial
theorem holds.tw18202751451028033538 : True := trivial
theorem holds.tw18224010420261798391 : True := trivial
theorem holds.tw1833173380454153921 : True := trivial
theorem holds.tw185807328385624810 : True := trivial
theorem holds.tw1876284267304334591 : True := trivial
theorem holds.tw1882270145967814011 : True := trivial
theorem holds.tw1974762919298152056 : True := trivial
theorem holds.tw1986877004247180340 : True := trivial
theorem holds.tw2003794701753356343 : True := trivial
theorem holds.tw2041457743892144894 : True := trivial
theorem holds.tw2084331650109322480 : True := trivial
theorem holds.tw2156681307112010326 : True := trivial
theorem holds.tw2160012875989923789 : True := trivial
theorem holds.tw2167384251425162797 : True := trivial
theorem holds.tw2277698456845511444 : True := trivial
theorem holds.tw2296293446034493066 : True := trivial
theorem holds.tw2335221107431800076 : True := trivial
theorem holds.tw2395109189467087578 : True := trivial
theorem holds.tw2395783193375807797 : True := trivial
theorem holds.tw2422663375537807432 : True := trivial
theorem holds.tw2451063411067222376 : True := trivial
theorem holds.tw2490583276235294983 : True := trivial
theorem holds.tw2562329033357795767 : True := trivial
theorem holds.tw2642592217982111355 : True := trivial
theorem holds.tw2661161477798328453 : True := trivial
theorem holds.tw2667925813562934949 : True := trivial
theorem holds.tw2682973687022302978 : True := trivial
theorem holds.tw2697976716319701033 : True := trivial
theorem holds.tw2752272122444995253 : True := trivial
theorem holds.tw2781561513384061212 : True := trivial
theorem holds.tw2912959965789975038 : True := trivial
theorem holds.tw2929439407932294337 : True := trivial
theorem holds.tw2936799095737714382 : True := trivial
theorem holds.tw2946744036017948005 : True := trivial
theorem holds.tw2963349702327202441 : True := trivial
theorem holds.tw2972900019843275892 : True := trivial
theorem holds.tw303617358959260456 : True := trivial
theorem holds.tw3083665863380995925 : True := trivial
theorem holds.tw3093010850272755244 : True := trivial
theorem holds.tw3101148707280403237 : True := trivial
theorem holds.tw3117193011312037209 : True := trivial
theorem holds.tw3210078786618844196 : True := trivial
theorem holds.tw3232270311777372273 : True := trivial
theorem holds.tw3279077582325829838 : True := trivial
theorem holds.tw3280128972450656526 : True := trivial
theorem holds.tw3339025504875072537 : True := trivial
theorem holds.tw3381435865837020940 : True := trivial
theorem holds.tw3393808461323943489 : True := trivial
theorem holds.tw3529921767576855348 : True := trivial
theorem holds.tw3589964763223657672 : True := trivial
theorem holds.tw3626213265524300766 : True := trivial
theorem holds.tw3720603090158432781 : True := trivial
theorem holds.tw3811385743445658432 : True := trivial
theorem holds.tw3906943341852370832 : True := trivial
theorem holds.tw3937267528351423324 : True := trivial
theorem holds.tw3969078344035082030 : True := trivial
theorem holds.tw4021013208564600997 : True := trivial
theorem holds.tw4046193847619289583 : True := trivial
theorem holds.tw4079574721724423606 : True := trivial
theorem holds.tw4132201380793018340 : True := trivial
theorem holds.tw4137054072099604216 : True := trivial
theorem holds.tw4197124852483764760 : True := trivial
theorem holds.tw4252685499439207924 : True := trivial
theorem holds.tw4302478151189881795 : True := trivial
theorem holds.tw432397303454026276 : True := trivial
theorem holds.tw4374827463496512255 : True := trivial
theorem holds.tw4381346726385406224 : True := trivial
theorem holds.tw4381757428849502282 : True := trivial
theorem holds.tw4397353207691548035 : True := trivial
theorem holds.tw4399152324972305773 : True := trivial
theorem holds.tw4408763645494598628 : True := trivial
theorem holds.tw4422276619278600727 : True := trivial
theorem holds.tw4475622257904601326 : True := trivial
theorem holds.tw4480811336153992742 : True := trivial
theorem holds.tw4485590747672999114 : True := trivial
theorem holds.tw4496467784121089108 : True := trivial
theorem holds.tw4500180452004054980 : True := trivial
theorem holds.tw4532548537324856634 : True := trivial
theorem holds.tw4583756282420477746 : True := trivial
theorem holds.tw4624323801304008105 : True := trivial
theorem holds.tw4636335402390110268 : True := trivial
theorem holds.tw4659233104850659043 : True := trivial
theorem holds.tw4695128735345963622 : True := trivial
theorem holds.tw4704721601158704856 : True := trivial
theorem holds.tw4753448620645791293 : True := trivial
theorem holds.tw4772410448533662562 : True := trivial
theorem holds.tw4796666493748621973 : True := trivial
theorem holds.tw4876135695594978501 : True := trivial
theorem holds.tw4921510776622977656 : True := trivial
theorem holds.tw4949047195023096438 : True := trivial
theorem holds.tw4952593789767209597 : True := trivial
theorem holds.tw4954732016240277505 : True := trivial
theorem holds.tw5015485144833937494 : True := trivial
theorem holds.tw5031978486770369989 : True := trivial
theorem holds.tw5078402968320093544 : True := trivial
theorem holds.tw5099458221760260784 : True := trivial
theorem holds.tw5112738896828158680 : True := trivial
theorem holds.tw5225467491883748592 : True := trivial
theorem holds.tw5252246860307943348 : True := trivial
theorem holds.tw5282283922864298156 : True := trivial
theorem holds.tw5295917329084666069 : True := trivial
theorem holds.tw5323918697378788693 : True := trivial
theorem holds.tw5498966250228494579 : True := trivial
theorem holds.tw5531990279233569197 : True := trivial
theorem holds.tw5583946556138506119 : True := trivial
theorem holds.tw5588498093969417903 : True := trivial
theorem holds.tw5599412692616142259 : True := trivial
theorem holds.tw5619803957841784048 : True := trivial
theorem holds.tw5635654813233479639 : True := trivial
theorem holds.tw5747684920607356772 : True := trivial
theorem holds.tw576298715544257586 : True := trivial
theorem holds.tw5763553328388235881 : True := trivial
theorem holds.tw5791938023122869331 : True := trivial
theorem holds.tw5857794014393010482 : True := trivial
theorem holds.tw5857869478962280401 : True := trivial
theorem holds.tw5878047611234877577 : True := trivial
theorem holds.tw5932082505621288647 : True := trivial
theorem holds.tw5959074840488112208 : True := trivial
theorem holds.tw6097131464955345451 : True := trivial
theorem holds.tw6099975724469302500 : True := trivial
theorem holds.tw6166532556598395850 : True := trivial
theorem holds.tw6216033271563703469 : True := trivial
theorem holds.tw6262129357070499819 : True := trivial
theorem holds.tw6278366128872770721 : True := trivial
theorem holds.tw63030109126827207 : True := trivial
theorem holds.tw6307330118970589470 : True := trivial
theorem holds.tw6330134614895140133 : True := trivial
theorem holds.tw6357344898813262543 : True := trivial
theorem holds.tw6396523623945614605 : True := trivial
theorem holds.tw6424660084863691381 : True := trivial
theorem holds.tw6460966521098074893 : True := trivial
theorem holds.tw6489310206099298910 : True := trivial
theorem holds.tw6545324650690627985 : True := trivial
theorem holds.tw6654929391614583909 : True := trivial
theorem holds.tw6674158366018852832 : True := trivial
theorem holds.tw6816380694822836728 : True := trivial
theorem holds.tw6817751937963910627 : True := trivial
theorem holds.tw685634667276709000 : True := trivial
theorem holds.tw6896159741398044905 : True := trivial
theorem holds.tw6902667361888063293 : True := trivial
theorem holds.tw7058599786907716777 : True := trivial
theorem holds.tw707885073954110949 : True := trivial
theorem holds.tw7122917452565745793 : True := trivial
theorem holds.tw7129523546110730894 : True := trivial
theorem holds.tw7145057240379410032 : True := trivial
theorem holds.tw7221694943082674061 : True := trivial
theorem holds.tw7258431392514884226 : True := trivial
theorem holds.tw7350330377624401328 : True := trivial
theorem holds.tw7365562674294520451 : True := trivial
theorem holds.tw7366336091430424897 : True := trivial
theorem holds.tw7399101569421298396 : True := trivial
theorem holds.tw7400771686186127474 : True := trivial
theorem holds.tw7442186320969616419 : True := trivial
theorem holds.tw7471688154085288455 : True := trivial
theorem holds.tw7580357766596436714 : True := trivial
theorem holds.tw759334954848157859 : True := trivial
theorem holds.tw7791430327242384495 : True := trivial
theorem holds.tw7840918076549728228 : True := trivial
theorem holds.tw7873036012977236159 : True := trivial
theorem holds.tw7877780744568003191 : True := trivial
theorem holds.tw7885888744534978006 : True := trivial
theorem holds.tw7942442253511216057 : True := trivial
theorem holds.tw7944191787301449481 : True := trivial
theorem holds.tw7991519602905016326 : True := trivial
theorem holds.tw8035951141280138642 : True := trivial
theorem holds.tw8070350036930755802 : True := trivial
theorem holds.tw8087799500789234286 : True := trivial
theorem holds.tw8102643725754146565 : True := trivial
theorem holds.tw8105830805119860317 : True := trivial
theorem holds.tw8115153917610635543 : True := trivial
theorem holds.tw8143335708233088440 : True := trivial
theorem holds.tw8163853742193369449 : True := trivial
theorem holds.tw8218819101457601776 : True := trivial
theorem holds.tw8239031253751857358 : True := trivial
theorem holds.tw8253004272172430988 : True := trivial
theorem holds.tw8260078842695283502 : True := trivial
theorem holds.tw8277820557490507997 : True := trivial
theorem holds.tw8323465864499181419 : True := trivial
theorem holds.tw8324913547053779211 : True := trivial
theorem holds.tw8351548024695214574 : True := trivial
theorem holds.tw8393340031374782525 : True := trivial
theorem holds.tw8413133151647880539 : True := trivial
theorem holds.tw8451429660923938374 : True := trivial
theorem holds.tw8551410553514715252 : True := trivial
theorem holds.tw8564859838321607590 : True := trivial
theorem holds.tw8571184235532366510 : True := trivial
theorem holds.tw8664812251140827045 : True := trivial
theorem holds.tw8684541073956307770 : True := trivial
theorem holds.tw8778671856527934898 : True := trivial
theorem holds.tw8789113547377566482 : True := trivial
theorem holds.tw8801499457356032720 : True := trivial
theorem holds.tw8827755016177155863 : True := trivial
theorem holds.tw8868445881999480663 : True := trivial
theorem holds.tw8903297777125119442 : True := trivial
theorem holds.tw8943767207682116370 : True := trivial
theorem holds.tw8944343764007091065 : True := trivial
theorem holds.tw9072656965561520583 : True := trivial
theorem holds.tw9107170298555381705 : True := trivial
theorem holds.tw9140063382869304120 : True := trivial
theorem holds.tw9143120035062812437 : True := trivial
theorem holds.tw9157471666820141079 : True := trivial
theorem holds.tw9160814584890018001 : True := trivial
theorem holds.tw9160933379109621080 : True := trivial
theorem holds.tw9245723823536211039 : True := trivial
theorem holds.tw9250495785965993271 : True := trivial
theorem holds.tw9260842090827677427 : True := trivial
theorem holds.tw9284948610034456067 : True := trivial
theorem holds.tw9321796208036801940 : True := trivial
theorem holds.tw9327718836232418737 : True := trivial
theorem holds.tw9370115536473471133 : True := trivial
theorem holds.tw9408521175777228426 : True := trivial
theorem holds.tw9430090754398894584 : True := trivial
theorem holds.tw9458989268892848673 : True := trivial
theorem holds.tw9486143321106344294 : True := trivial
theorem holds.tw949623864930693503 : True := trivial
theorem holds.tw9518972631687950247 : True := trivial
theorem holds.tw9523873602847724419 : True := trivial
theorem holds.tw9569093901706499007 : True := trivial
theorem holds.tw960582308587345451 : True := trivial
theorem holds.tw96072713605637463 : True := trivial
theorem holds.tw9638990691586225099 : True := trivial
theorem holds.tw9766128667603022514 : True := trivial
theorem holds.tw9784731065822230439 : True := trivial
theorem holds.tw9816476011544392670 : True := trivial
theorem holds.tw9855210162650666830 : True := trivial
theorem holds.tw9866653766423218390 : True := trivial
theorem holds.tw9930548314228155742 : True := trivial
set_option Elab.async true in
theorem holds : PySem.Challenge.rw_nu0225_01.Holds := by
  w_on
  o_law
  k_head
  (case hw => w_witness2)
  intro w s₀ s₁ mg mb G Y fa o pm cd doc dV kV ho hdd hcd hD hmg hg args vals as hpre hlay hrd hwl hlo
  have KX : (hd.heap_1 w.params).In s₁.heap := kIn_of Y
  refine Ground.open G ?_
  intro T B D TE TW
  have hfa : mg "law" = some (.ref 481) := by
    refine' mg_of KX T.g ?k1
    (case k1 => k_is)
  have hfb : mg "law" = some (.ref fa) := hmg
  rw [hfa] at hfb
  cases hfb
  clear ho hdd hcd hD Y B D TE TW hmg
  wrow_args hpre hlay hrd hwl hlo
  rename IntsAre _ _ => hI
  rename Heap.IsList _ _ _ => hL
  rename ¬ _ => hc
  refine enter_call ?_
  refine law_code (H := s₁.heap) ⟨KX, ⟨mg, mb, T.g, T.b, T.builtins⟩, T.nolimit⟩ .refl ⟨rfl, by decide, by decide⟩ hL hI (by omega) ?_
  rintro s' ⟨H', st⟩
  obtain ⟨h', tk, rfl⟩ := st.same
  have hr : ReadsW PySem.Challenge.rw_nu0225_01.row.records (classAt s₀.heap) h' (.bool true) (ofPy (.bool true)) [] := readsW_of_reads (.bool true)
  refine GoodW.toG ⟨.inl ⟨.bool true, ofPy (.bool true), [], rfl, raisesW_false (r := PySem.Challenge.rw_nu0225_01.row.toRowW) allW_false_nil, hr, postW_of (r := PySem.Challenge.rw_nu0225_01.row.toRowW) (X := _) rfl (by wtm_val) rfl, unshared_nil⟩, fun b o e => st.kept b o (by simp) e, rfl, hg⟩

end Mine
theorem PySem.Challenge.cw_nu0225_01_holds : PySem.Challenge.rw_nu0225_01.Holds := by
  exact Mine.holds
