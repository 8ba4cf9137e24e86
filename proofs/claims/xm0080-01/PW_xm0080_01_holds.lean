import PyProof.Rows.All
import Wide.All
import OpenK.AllK
import Wide.FinOn
import PySem.Challenge.RW_xm0080_01
open PySem PySem.W PyProof.Rows
set_option Elab.async false
set_option linter.unusedVariables false
set_option linter.unusedSectionVars false
namespace Mine
set_option maxRecDepth 100000 in
set_option maxHeartbeats 8000000 in
open_top hd for PySem.Challenge.rw_xm0080_01
/-! the base: what is known and never changes -/
abbrev Base := Addr → Option Obj
def Base.le (B B' : Base) : Prop := ∀ b o, B b = some o → B' b = some o
def Base.In (B : Base) (h : Heap) : Prop := ∀ b o, B b = some o → h.get? b = some o
theorem Base.le.rfl {B : Base} : B.le B := fun _ _ e => e
theorem Base.le.trans {B B' B'' : Base} (x : B.le B') (y : B'.le B'') : B.le B'' := fun b o e => y b o (x b o e)
theorem Base.In.of_le {B B' : Base} {h : Heap} (x : B'.In h) (l : B.le B') : B.In h := fun b o e => x b o (l b o e)

/-- one step that only adds -/
structure Ext (B : Base) (h : Heap) (B' : Base) (h' : Heap) : Prop where
  le : B.le B'
  sub : B'.In h'
  keep : ∀ b o, h.get? b = some o → h'.get? b = some o
  off : ∀ b o, h.get? b = some o → B b = none → B' b = none

theorem Ext.refl {B : Base} {h : Heap} (s : B.In h) : Ext B h B h := ⟨.rfl, s, fun _ _ e => e, fun _ _ _ e => e⟩
theorem Ext.trans {B B' B'' : Base} {h h' h'' : Heap} (x : Ext B h B' h') (y : Ext B' h' B'' h'') : Ext B h B'' h'' :=
  ⟨x.le.trans y.le, y.sub, fun b o e => y.keep b o (x.keep b o e), fun b o e n => y.off b o (x.keep b o e) (x.off b o e n)⟩

/-- one step that changes no more than W of the objects that are not of the base -/
structure ExtW (W : List Addr) (B : Base) (h : Heap) (B' : Base) (h' : Heap) : Prop where
  le : B.le B'
  sub : B'.In h'
  keep : ∀ b o, b ∉ W → h.get? b = some o → h'.get? b = some o
  off : ∀ b o, h.get? b = some o → B b = none → B' b = none
  live : ∀ b o, h.get? b = some o → ∃ o', h'.get? b = some o'

/-- an object's predicate at an address -/
abbrev Ent := Addr × (Obj → Prop)
def Ents (ps : List Ent) (h : Heap) : Prop := ∀ p ∈ ps, ∃ o, h.get? p.1 = some o ∧ p.2 o

def lstO (vs : List Value) (n : Nat) : Obj := { cls := .type "list", data := .seq vs.toArray n }
def tupO (vs : List Value) (n : Nat) : Obj := { cls := .type "tuple", data := .seq vs.toArray n }
/-- a list of one's own -/
def LstP (vs : List Value) : Obj → Prop := fun o => ∃ n, o = lstO vs n

/-- what is known of the names: m tells some of them -/
structure Lo (env : Env) (m : Str → Option Value) (h : Heap) : Prop where
  ns : ∃ mL, h.Ns env.locals mL ∧ ∀ x v, env.kindOf x = some .local → m x = some v → mL x = some v
  cell : ∀ x c, env.kindOf x = some .cell → env.cells.lookup x = some c → ∃ v₀, h.IsCell c v₀ ∧ ∀ v, m x = some v → v₀ = some v
  apart : env.cells.Pairwise fun x y => x.2 ≠ y.2
  ne : ∀ x c, (x, c) ∈ env.cells → c ≠ env.locals
  ex : ∀ x c, (x, c) ∈ env.cells → ∃ o, h.get? c = some o

structure Fm (W : List Addr) (B₀ : Base) (h₀ : Heap) (own : List Addr) (env : Env) (B : Base) (m : Str → Option Value) (ps : List Ent) (h : Heap) : Prop where
  mono : B₀.le B
  sub : B.In h
  keep : ∀ b o, b ∉ W → h₀.get? b = some o → h.get? b = some o
  off : ∀ b o, h₀.get? b = some o → B₀ b = none → B b = none
  live : ∀ b o, h₀.get? b = some o → ∃ o', h.get? b = some o'
  lo : Lo env m h
  ents : Ents ps h
  nodup : (own ++ ps.map (·.1)).Nodup
  apart : ∀ a ∈ own ++ ps.map (·.1), B a = none
  fresh : ∀ a ∈ own ++ ps.map (·.1), a ∉ W → h₀.get? a = none
  there : ∀ a ∈ own, ∃ o, h.get? a = some o
  wex : ∀ a ∈ W, ∃ o, h₀.get? a = some o

theorem IsCell_keeps {h h' : Heap} {c : Addr} {v : Option Value} (x : h.IsCell c v) (e : ∀ o, h.get? c = some o → h'.get? c = some o) : h'.IsCell c v :=
  let ⟨o, ho, hd⟩ := x; ⟨o, e _ ho, hd⟩

/-- locals stay when nothing of theirs is touched -/
theorem Lo.keeps {env : Env} {m : Str → Option Value} {h h' : Heap} (x : Lo env m h) (k : ∀ b o, h.get? b = some o → h'.get? b = some o) : Lo env m h' :=
  ⟨let ⟨mL, a, b⟩ := x.ns; ⟨mL, a.keeps k, b⟩, fun y c hk hc => let ⟨v₀, a, b⟩ := x.cell y c hk hc; ⟨v₀, a.keeps k, b⟩, x.apart, x.ne, fun y c hm => let ⟨o, e⟩ := x.ex y c hm; ⟨o, k _ _ e⟩⟩
theorem Lo.keepsBut {env : Env} {m : Str → Option Value} {h h' : Heap} (x : Lo env m h) (W : List Addr) (hL : env.locals ∉ W) (hc : ∀ x c, (x, c) ∈ env.cells → c ∉ W)
    (k : ∀ b o, b ∉ W → h.get? b = some o → h'.get? b = some o) : Lo env m h' :=
  ⟨let ⟨mL, a, b⟩ := x.ns; ⟨mL, a.at' fun o e => k _ o hL e, b⟩, fun y c hk hl => let ⟨v₀, a, b⟩ := x.cell y c hk hl; ⟨v₀, IsCell_keeps a fun o e => k _ o (hc y c (mem_of_lookup hl)) e, b⟩, x.apart, x.ne, fun y c hm => let ⟨o, e⟩ := x.ex y c hm; ⟨o, k _ _ (hc y c hm) e⟩⟩

section
variable {W : List Addr} {B₀ B B' : Base} {h₀ h h' : Heap} {own : List Addr} {env : Env} {m : Str → Option Value} {ps : List Ent}

theorem Fm.forget {m' : Str → Option Value} (S : Fm W B₀ h₀ own env B m ps h) (hm : ∀ x v, m' x = some v → m x = some v) : Fm W B₀ h₀ own env B m' ps h :=
  { S with lo := ⟨let ⟨mL, a, b⟩ := S.lo.ns; ⟨mL, a, fun x v hx hv => b x v hx (hm x v hv)⟩,
      fun x c hx hc => let ⟨v₀, a, b⟩ := S.lo.cell x c hx hc; ⟨v₀, a, fun v hv => b v (hm x v hv)⟩, S.lo.apart, S.lo.ne, S.lo.ex⟩ }

theorem Fm.ext (S : Fm W B₀ h₀ own env B m ps h) (x : Ext B h B' h') : Fm W B₀ h₀ own env B' m ps h' where
  mono := S.mono.trans x.le
  sub := x.sub
  keep := fun b o hb e => x.keep b o (S.keep b o hb e)
  off := fun b o e n => let ⟨o', e'⟩ := S.live b o e; x.off b o' e' (S.off b o e n)
  live := fun b o e => let ⟨o', e'⟩ := S.live b o e; ⟨o', x.keep _ _ e'⟩
  lo := S.lo.keeps x.keep
  ents := fun p hp => let ⟨o, e, q⟩ := S.ents p hp; ⟨o, x.keep _ _ e, q⟩
  nodup := S.nodup
  apart := fun a ha => by
    have n := S.apart a ha
    rcases List.mem_append.mp ha with h1 | h1
    · obtain ⟨o, e⟩ := S.there a h1; exact x.off a o e n
    · obtain ⟨p, hp, rfl⟩ := List.mem_map.mp h1
      obtain ⟨o, e, _⟩ := S.ents p hp; exact x.off _ o e n
  fresh := S.fresh
  there := fun a ha => let ⟨o, e⟩ := S.there a ha; ⟨o, x.keep _ _ e⟩
  wex := S.wex

/-- the frame's end, seen by its caller -/
theorem Fm.toExt (S : Fm [] B₀ h₀ own env B m ps h) : Ext B₀ h₀ B h := ⟨S.mono, S.sub, fun b o e => S.keep b o (by simp) e, S.off⟩
theorem Fm.toExtW (S : Fm W B₀ h₀ own env B m ps h) : ExtW W B₀ h₀ B h := ⟨S.mono, S.sub, S.keep, S.off, S.live⟩

theorem Fm.drop {ps' : List Ent} (S : Fm W B₀ h₀ own env B m ps h) (hs : ps'.Sublist ps) : Fm W B₀ h₀ own env B m ps' h :=
  { S with
    ents := fun p hp => S.ents p (hs.subset hp)
    nodup := S.nodup.sublist ((List.Sublist.refl _).append (hs.map _))
    apart := fun a ha => S.apart a (((List.Sublist.refl _).append (hs.map _)).subset ha)
    fresh := fun a ha => S.fresh a (((List.Sublist.refl _).append (hs.map _)).subset ha) }

theorem Fm.perm {ps' : List Ent} (S : Fm W B₀ h₀ own env B m ps h) (hs : ps.Perm ps') : Fm W B₀ h₀ own env B m ps' h :=
  { S with
    ents := fun p hp => S.ents p (hs.mem_iff.mpr hp)
    nodup := (List.Perm.nodup_iff ((hs.map _).append_left own)).mp S.nodup
    apart := fun a ha => S.apart a (((hs.map _).append_left own).mem_iff.mpr ha)
    fresh := fun a ha => S.fresh a (((hs.map _).append_left own).mem_iff.mpr ha) }

/-- one private object changes -/
theorem Fm.chg {a : Addr} {m' : Str → Option Value} {ps' : List Ent} (S : Fm W B₀ h₀ own env B m ps h) (ha : a ∈ own ++ ps.map (·.1))
    (k : ∀ b o, b ≠ a → h.get? b = some o → h'.get? b = some o) (la : ∃ o, h'.get? a = some o)
    (hps : ps'.map (·.1) = ps.map (·.1)) (he : Ents ps' h') (hl : Lo env m' h') : Fm W B₀ h₀ own env B m' ps' h' where
  mono := S.mono
  sub := fun b o e => k b o (fun q => by rw [q, S.apart a ha] at e; cases e) (S.sub b o e)
  keep := fun b o hb e => k b o (fun q => by
    have hW : a ∉ W := fun z => hb (q ▸ z)
    rw [q, S.fresh a ha hW] at e; cases e) (S.keep b o hb e)
  off := S.off
  live := fun b o e => by
    by_cases q : b = a
    · rw [q]; exact la
    · obtain ⟨o', e'⟩ := S.live b o e; exact ⟨o', k b o' q e'⟩
  lo := hl
  ents := he
  nodup := by rw [hps]; exact S.nodup
  apart := by rw [hps]; exact S.apart
  fresh := by rw [hps]; exact S.fresh
  there := fun b hb => by
    by_cases q : b = a
    · rw [q]; exact la
    · obtain ⟨o', e'⟩ := S.there b hb; exact ⟨o', k b o' q e'⟩
  wex := S.wex

/-- a private object of the list changes -/
theorem Fm.set {a : Addr} {P P' : Obj → Prop} {ps₁ ps₂ : List Ent} {o' : Obj} (S : Fm W B₀ h₀ own env B m (ps₁ ++ (a, P) :: ps₂) h)
    (k : ∀ b o, b ≠ a → h.get? b = some o → h'.get? b = some o) (e : h'.get? a = some o') (hp : P' o')
    (hL : env.locals ∈ own) (hC : ∀ x c, (x, c) ∈ env.cells → c ≠ a) : Fm W B₀ h₀ own env B m (ps₁ ++ (a, P') :: ps₂) h' := by
  have ha : a ∈ own ++ (ps₁ ++ (a, P) :: ps₂).map (·.1) := by simp
  have hn := S.nodup
  refine S.chg ha k ⟨o', e⟩ (by simp) ?_ ?_
  · intro p hp'
    by_cases q : p.1 = a
    · rcases List.mem_append.mp hp' with h1 | h1
      · exfalso
        rw [List.map_append, List.map_cons, ← List.append_assoc, List.nodup_append] at hn
        exact hn.2.2 p.1 (List.mem_append_right _ (List.mem_map_of_mem h1)) a (by simp) q
      · rcases List.mem_cons.mp h1 with h2 | h2
        · rw [h2]; exact ⟨o', e, hp⟩
        · exfalso
          rw [List.map_append, List.map_cons, ← List.append_assoc, List.nodup_append] at hn
          have h3 : p.1 ∈ ps₂.map (·.1) := List.mem_map_of_mem h2
          exact (List.nodup_cons.mp hn.2.1).1 (by rw [q] at h3; exact h3)
    · have hm : p ∈ ps₁ ++ (a, P) :: ps₂ := by
        rcases List.mem_append.mp hp' with h1 | h1
        · exact List.mem_append_left _ h1
        · rcases List.mem_cons.mp h1 with h2 | h2
          · exact absurd (by rw [h2]) q
          · exact List.mem_append_right _ (List.mem_cons_of_mem _ h2)
      obtain ⟨o, eo, po⟩ := S.ents p hm
      exact ⟨o, k _ _ q eo, po⟩
  · refine S.lo.keepsBut [a] (fun q => ?_) (fun x c hc q => hC x c hc (by simpa using q)) (fun b o hb => k b o (by simpa using hb))
    rw [List.nodup_append] at hn
    exact hn.2.2 _ hL a (by simp) (by simpa using q)

/-- a private object is made -/
theorem Fm.push {a : Addr} {P : Obj → Prop} {o : Obj} (S : Fm W B₀ h₀ own env B m ps h) (hn : h.get? a = none) (k : ∀ b o, h.get? b = some o → h'.get? b = some o)
    (e : h'.get? a = some o) (hp : P o) : Fm W B₀ h₀ own env B m ((a, P) :: ps) h' := by
  have h1 : ∀ b, b ∈ own ++ ps.map (·.1) → b ≠ a := fun b hb q => by
    rcases List.mem_append.mp hb with z | z
    · obtain ⟨o, eo⟩ := S.there b z; rw [q, hn] at eo; cases eo
    · obtain ⟨p, hp, rfl⟩ := List.mem_map.mp z
      obtain ⟨o, eo, _⟩ := S.ents p hp; rw [q, hn] at eo; cases eo
  have hB : B a = none := by
    cases q : B a with
    | none => rfl
    | some o => have := S.sub a o q; rw [hn] at this; cases this
  have hh : h₀.get? a = none := by
    cases q : h₀.get? a with
    | none => rfl
    | some o => obtain ⟨o', e'⟩ := S.live a o q; rw [hn] at e'; cases e'
  exact {
    mono := S.mono
    sub := fun b o e => k b o (S.sub b o e)
    keep := fun b o hb e => k b o (S.keep b o hb e)
    off := S.off
    live := fun b o e => let ⟨o', e'⟩ := S.live b o e; ⟨o', k _ _ e'⟩
    lo := S.lo.keeps k
    ents := fun p hp' => by
      rcases List.mem_cons.mp hp' with z | z
      · rw [z]; exact ⟨o, e, hp⟩
      · obtain ⟨o, eo, po⟩ := S.ents p z; exact ⟨o, k _ _ eo, po⟩
    nodup := by
      have := S.nodup
      rw [List.map_cons]
      refine (List.Perm.nodup_iff List.perm_middle).mpr (List.nodup_cons.mpr ⟨fun q => h1 a q rfl, this⟩)
    apart := fun b hb => by
      rw [List.map_cons] at hb
      rcases List.mem_cons.mp (List.perm_middle.mem_iff.mp hb) with z | z
      · rw [z]; exact hB
      · exact S.apart b z
    fresh := fun b hb hW => by
      rw [List.map_cons] at hb
      rcases List.mem_cons.mp (List.perm_middle.mem_iff.mp hb) with z | z
      · rw [z]; exact hh
      · exact S.fresh b z hW
    there := fun b hb => let ⟨o, e⟩ := S.there b hb; ⟨o, k _ _ e⟩
    wex := S.wex }

/-- a private object of one's own becomes part of the base -/
theorem Fm.freeze {a : Addr} {P : Obj → Prop} (S : Fm W B₀ h₀ own env B m ((a, P) :: ps) h) (hW : a ∉ W) :
    ∃ B', B.le B' ∧ (∃ o, B' a = some o ∧ P o) ∧ Fm W B₀ h₀ own env B' m ps h := by
  obtain ⟨o, e, po⟩ := S.ents (a, P) (by simp)
  have e : h.get? a = some o := e
  have hB : B a = none := S.apart a (by simp)
  have hh : h₀.get? a = none := S.fresh a (by simp) hW
  have hnd := List.nodup_cons.mp ((List.Perm.nodup_iff List.perm_middle).mp (show (own ++ a :: ps.map (·.1)).Nodup from S.nodup))
  have le : B.le (fun b => if b = a then some o else B b) := fun b o' eb => by
    by_cases q : b = a
    · rw [q, hB] at eb; cases eb
    · show (if b = a then some o else B b) = _
      rw [if_neg q]; exact eb
  refine ⟨fun b => if b = a then some o else B b, le, ⟨o, by simp, po⟩, ?_⟩
  exact {
    mono := S.mono.trans le
    sub := fun b o' eb => by
      by_cases q : b = a
      · subst q; simp only [if_true] at eb; rw [← eb]; exact e
      · simp only [if_neg q] at eb; exact S.sub b o' eb
    keep := S.keep
    off := fun b o' eb hb => by
      by_cases q : b = a
      · rw [q, hh] at eb; cases eb
      · show (if b = a then some o else B b) = _
        rw [if_neg q]; exact S.off b o' eb hb
    live := S.live
    lo := S.lo
    ents := fun p hp => S.ents p (List.mem_cons_of_mem _ hp)
    nodup := hnd.2
    apart := fun b hb => by
      show (if b = a then some o else B b) = _
      rw [if_neg (fun (q : b = a) => hnd.1 (by rw [← q]; exact hb))]
      refine S.apart b ?_
      exact List.perm_middle.mem_iff.mpr (List.mem_cons_of_mem _ hb)
    fresh := fun b hb hbW => S.fresh b (List.perm_middle.mem_iff.mpr (List.mem_cons_of_mem _ hb)) hbW
    there := S.there
    wex := S.wex }

theorem Ext.alloc {a : Addr} {o : Obj} (s : B.In h) (hn : h.get? a = none) (k : ∀ b o, h.get? b = some o → h'.get? b = some o) (e : h'.get? a = some o) :
    ∃ B', Ext B h B' h' ∧ B' a = some o := by
  have hB : B a = none := by
    cases q : B a with
    | none => rfl
    | some o => have := s a o q; rw [hn] at this; cases this
  refine ⟨fun b => if b = a then some o else B b, ⟨fun b o' eb => ?_, fun b o' eb => ?_, k, fun b o' eb hb => ?_⟩, by simp⟩
  · show (if b = a then some o else B b) = _
    rw [if_neg fun q => by rw [q, hB] at eb; cases eb]; exact eb
  · by_cases q : b = a
    · subst q; simp only [if_true] at eb; rw [← eb]; exact e
    · simp only [if_neg q] at eb; exact k _ _ (s b o' eb)
  · show (if b = a then some o else B b) = _
    rw [if_neg fun q => by rw [q, hn] at eb; cases eb]; exact hb

theorem Ext.keeps (s : B.In h) (k : ∀ b o, h.get? b = some o → h'.get? b = some o) : Ext B h B h' := ⟨.rfl, fun b o e => k b o (s b o e), k, fun _ _ _ n => n⟩

/-- a step of a callee that may change W' -/
theorem Fm.extW {W' : List Addr} {ps' : List Ent} (S : Fm W B₀ h₀ own env B m ps h) (x : ExtW W' B h B' h') (hL : env.locals ∉ W') (hC : ∀ y c, (y, c) ∈ env.cells → c ∉ W')
    (hO : ∀ a ∈ own, a ∉ W') (hW : ∀ a ∈ W', a ∈ ps.map (·.1)) (hps : ps'.map (·.1) = ps.map (·.1)) (he : Ents ps' h') : Fm W B₀ h₀ own env B' m ps' h' where
  mono := S.mono.trans x.le
  sub := x.sub
  keep := fun b o hb e => x.keep b o (fun q => by
    have := S.fresh b (List.mem_append_right _ (hW b q)) hb
    rw [this] at e; cases e) (S.keep b o hb e)
  off := fun b o e n => let ⟨o', e'⟩ := S.live b o e; x.off b o' e' (S.off b o e n)
  live := fun b o e => let ⟨o', e'⟩ := S.live b o e; x.live b o' e'
  lo := S.lo.keepsBut W' hL hC x.keep
  ents := he
  nodup := by rw [hps]; exact S.nodup
  apart := fun a ha => by
    rw [hps] at ha
    have n := S.apart a ha
    rcases List.mem_append.mp ha with h1 | h1
    · obtain ⟨o, e⟩ := S.there a h1; exact x.off a o e n
    · obtain ⟨p, hp, rfl⟩ := List.mem_map.mp h1
      obtain ⟨o, e, _⟩ := S.ents p hp; exact x.off _ o e n
  fresh := by rw [hps]; exact S.fresh
  there := fun a ha => let ⟨o, e⟩ := S.there a ha; ⟨o, x.keep _ _ (hO a ha) e⟩
  wex := S.wex

/-- new things: none of W, no cell -/
def NewW (W : List Addr) (env : Env) (wr : List Addr) : Prop := (∀ a ∈ wr, a ∉ W) ∧ ∀ x c, (x, c) ∈ env.cells → c ∉ wr
theorem Fm.newW {wr : List Addr} (S : Fm W B₀ h₀ own env B m ps h) (hn : ∀ a ∈ wr, h.get? a = none) : NewW W env wr :=
  ⟨fun a ha q => (by
    obtain ⟨o, e⟩ := S.wex a q
    obtain ⟨o', e'⟩ := S.live a o e
    rw [hn a ha] at e'; cases e'), fun x c hm q => (by
    obtain ⟨o, e⟩ := S.lo.ex x c hm
    rw [hn c q] at e; cases e)⟩
end
/-! loads, stores, the top's names, a call's start -/

/-- what is known of the top at a base -/
def Tp (K : Frag) (B : Base) : Prop :=
  ∃ h₁ : Heap, (∀ b o, h₁.get? b = some o → B b = some o) ∧ K.In h₁ ∧ (∃ mg, h₁.Ns mainGlobals mg) ∧
    (∃ mb, h₁.Ns builtinsNs mb ∧ ∀ x : Str, x ≠ "__name__" → mb x = bootBuiltins x) ∧ h₁.NoLimit
theorem Tp.le {K : Frag} {B B' : Base} (T : Tp K B) (l : B.le B') : Tp K B' :=
  let ⟨h₁, a, r⟩ := T; ⟨h₁, fun b o e => l b o (a b o e), r⟩
theorem Tp.k {K : Frag} {B : Base} {h : Heap} (T : Tp K B) (s : B.In h) : K.In h :=
  let ⟨_, a, k, _⟩ := T; k.keeps fun b o e => s b o (a b o e)
theorem Tp.g {K : Frag} {B : Base} {h : Heap} (T : Tp K B) (s : B.In h) : ∃ mg, h.Ns mainGlobals mg :=
  let ⟨_, a, _, ⟨mg, g⟩, _⟩ := T; ⟨mg, g.keeps fun b o e => s b o (a b o e)⟩
theorem Tp.b {K : Frag} {B : Base} {h : Heap} (T : Tp K B) (s : B.In h) : ∃ mb, h.Ns builtinsNs mb ∧ ∀ x : Str, x ≠ "__name__" → mb x = bootBuiltins x :=
  let ⟨_, a, _, _, ⟨mb, g, q⟩, _⟩ := T; ⟨mb, g.keeps (fun b o e => s b o (a b o e)), q⟩
theorem Tp.lim {K : Frag} {B : Base} {h : Heap} (T : Tp K B) (s : B.In h) : h.NoLimit :=
  let ⟨_, a, _, _, _, l⟩ := T; l.keeps fun b o e => s b o (a b o e)
theorem Tp.obj {K : Frag} {B : Base} (T : Tp K B) {a : Addr} {o : Obj} (e : K.lookup a = some o) : B a = some o :=
  let ⟨_, q, k, _⟩ := T; q a o (k a o e)

/-- a state by its heap and its count of marks -/
def mk (s : Shared) (h : Heap) (tk : Nat) : Shared := { s with heap := h, toks := tk }
theorem mk_self (s : Shared) : mk s s.heap s.toks = s := rfl

/-- room for n frames more -/
structure Room (n : Nat) (A : Around) : Prop where
  quiet : A.handled = none
  depth : A.depth + n < recursionLimit
  units : A.units + 16 * n + 200 < cLine
theorem Room.le {n k : Nat} {A : Around} (r : Room n A) (h : k ≤ n) : Room k A := ⟨r.quiet, by have := r.depth; omega, by have := r.units; omega⟩
theorem Room.deeper {n : Nat} {A : Around} (r : Room (n + 1) A) (env : Env) : Room n (A.deeper env) :=
  ⟨r.quiet, by have := r.depth; show A.depth + 1 + n < _; omega, by have := r.units; show A.units + 3 + 16 * n + 200 < _; omega⟩

section
variable {M : Model} {A : Around} {E : Value → Shared → Prop} {s : Shared} {K : Frag} {tk : Nat}
variable {W : List Addr} {B₀ B B' : Base} {h₀ h h' : Heap} {own : List Addr} {env : Env} {m : Str → Option Value} {ps : List Ent} {x : Str} {pos : Pos} {v : Value}

theorem ldnL {Q : Value → Shared → Prop} (S : Fm W B₀ h₀ own env B m ps h) (hv : m x = some v) (hq : Q v (mk s h tk))
    (hk : env.scope.kind = .function := by rfl) (hx : env.kindOf x = some .local := by rfl) : wpAny M A (loadName env x) Q E (mk s h tk) := by
  obtain ⟨mL, hn, hm⟩ := S.lo.ns
  exact wpAny_loadName_local hk hx hn (hm x v hx hv) hq
theorem ldnC {Q : Value → Shared → Prop} {c : Addr} (S : Fm W B₀ h₀ own env B m ps h) (hv : m x = some v) (hq : Q v (mk s h tk))
    (hk : env.scope.kind = .function := by rfl) (hx : env.kindOf x = some .cell := by rfl) (hc : env.cells.lookup x = some c := by rfl) : wpAny M A (loadName env x) Q E (mk s h tk) := by
  obtain ⟨v₀, a, b⟩ := S.lo.cell x c hx hc
  rw [b v hv] at a
  exact wpAny_loadName_cell hk hx hc a hq
theorem ldL {Q : Value → Shared → Prop} (S : Fm W B₀ h₀ own env B m ps h) (hv : m x = some v) (hq : Q v (mk s h tk))
    (hk : env.scope.kind = .function := by rfl) (hx : env.kindOf x = some .local := by rfl) (hd : (x == ("__debug__" : Str)) = false := by decide) :
    wpAny M A (eval (.Name x pos) env) Q E (mk s h tk) := wpAny_Name (ldnL S hv hq hk hx) hd
theorem ldC {Q : Value → Shared → Prop} {c : Addr} (S : Fm W B₀ h₀ own env B m ps h) (hv : m x = some v) (hq : Q v (mk s h tk))
    (hk : env.scope.kind = .function := by rfl) (hx : env.kindOf x = some .cell := by rfl) (hc : env.cells.lookup x = some c := by rfl) (hd : (x == ("__debug__" : Str)) = false := by decide) :
    wpAny M A (eval (.Name x pos) env) Q E (mk s h tk) := wpAny_Name (ldnC S hv hq hk hx hc) hd

theorem ldG {Q : Value → Shared → Prop} (S : Fm W B₀ h₀ own env B m ps h) (T : Tp K B₀) (e : nsIn K mainGlobals x = some (some v)) (hq : Q v (mk s h tk))
    (hk : env.scope.kind = .function := by rfl) (hx : env.kindOf x = some .globalImplicit := by rfl) (hg : env.globals = mainGlobals := by rfl) (hd : (x == ("__debug__" : Str)) = false := by decide) :
    wpAny M A (eval (.Name x pos) env) Q E (mk s h tk) := by
  obtain ⟨mg, g⟩ := T.g (S.sub.of_le S.mono)
  exact Calls.Name_function_global hk hx (Calls.loadGlobal_global (hg ▸ g) (mg_of (T.k (S.sub.of_le S.mono)) g e) hq) hd
theorem ldB {Q : Value → Shared → Prop} (S : Fm W B₀ h₀ own env B m ps h) (T : Tp K B₀) (e : nsIn K mainGlobals x = some none) (hv : bootBuiltins x = some v) (hn : x ≠ "__name__") (hq : Q v (mk s h tk))
    (hk : env.scope.kind = .function := by rfl) (hx : env.kindOf x = some .globalImplicit := by rfl) (hg : env.globals = mainGlobals := by rfl) (hb : env.builtins = builtinsNs := by rfl)
    (hd : (x == ("__debug__" : Str)) = false := by decide) : wpAny M A (eval (.Name x pos) env) Q E (mk s h tk) := by
  obtain ⟨mg, g⟩ := T.g (S.sub.of_le S.mono)
  obtain ⟨mb, b, q⟩ := T.b (S.sub.of_le S.mono)
  exact Calls.Name_function_global hk hx (Calls.loadGlobal_builtin (hg ▸ g) (mg_none_of (T.k (S.sub.of_le S.mono)) g e) (hb ▸ b) ((q x hn).trans hv) hq) hd

/-- m with one name told anew -/
abbrev upd (m : Str → Option Value) (x : Str) (v : Value) : Str → Option Value := fun y => if y = x then some v else m y

theorem Lo.setL {mL' : Str → Option Value} (x : Lo env m h) (y : Str) (v : Value) (hy : env.kindOf y = some .local) (hn : h'.Ns env.locals mL') (hm : ∀ z u, env.kindOf z = some .local → upd m y v z = some u → mL' z = some u)
    (k : ∀ b o, b ≠ env.locals → h.get? b = some o → h'.get? b = some o) : Lo env (upd m y v) h' :=
  ⟨⟨mL', hn, hm⟩, fun z c hk hc => by
    have : z ≠ y := fun q => by rw [q, hy] at hk; cases hk
    rw [show upd m y v z = m z from if_neg this]
    obtain ⟨v₀, a, b⟩ := x.cell z c hk hc
    exact ⟨v₀, IsCell_keeps a fun o e => k c o (x.ne z c (mem_of_lookup hc)) e, b⟩, x.apart, x.ne, fun z c hm => let ⟨o, e⟩ := x.ex z c hm; ⟨o, k _ _ (x.ne z c hm) e⟩⟩

theorem st_L {Q : Unit → Shared → Prop} (S : Fm W B₀ h₀ own env B m ps h) (hL : env.locals ∈ own)
    (hq : ∀ h' tk, Fm W B₀ h₀ own env B (upd m x v) ps h' → Q () (mk s h' tk))
    (hk : env.scope.kind = .function := by rfl) (hx : env.kindOf x = some .local := by rfl) : wpAny M A (storeName env x v) Q E (mk s h tk) := by
  obtain ⟨mL, hn, hm⟩ := S.lo.ns
  refine wpAny_storeName_local hx hn (fun h' hn' hs => hq h' _ ?_) (by rw [hk]; rfl)
  have k : ∀ b o, b ≠ env.locals → h.get? b = some o → h'.get? b = some o := hs.extBut
  refine S.chg (List.mem_append_left _ hL) k ?_ rfl ?_ ?_
  · obtain ⟨o, _, _, ho, _⟩ := hn'; exact ⟨o, ho⟩
  · intro p hp
    obtain ⟨o, e, q⟩ := S.ents p hp
    refine ⟨o, k _ _ (fun z => ?_) e, q⟩
    exact (List.nodup_append.mp S.nodup).2.2 _ hL p.1 (List.mem_map_of_mem hp) z.symm
  · exact S.lo.setL x v hx hn' (fun z u hz hu => by
      show (if z = x then some v else mL z) = _
      by_cases q : z = x
      · simpa [upd, q] using hu
      · rw [if_neg q]; exact hm z u hz (by simpa [upd, q] using hu)) k

theorem st_C {Q : Unit → Shared → Prop} {c : Addr} (S : Fm W B₀ h₀ own env B m ps h) (hL : c ∈ own)
    (hq : ∀ h' tk, Fm W B₀ h₀ own env B (upd m x v) ps h' → Q () (mk s h' tk))
    (hk : env.scope.kind = .function := by rfl) (hx : env.kindOf x = some .cell := by rfl) (hc : env.cells.lookup x = some c := by rfl) : wpAny M A (storeName env x v) Q E (mk s h tk) := by
  obtain ⟨v₀, cv, _⟩ := S.lo.cell x c hx hc
  refine wpAny_storeName_cell hk hx hc cv fun h' hc' hs => hq h' _ ?_
  have k : ∀ b o, b ≠ c → h.get? b = some o → h'.get? b = some o := hs.extBut
  refine S.chg (List.mem_append_left _ hL) k ?_ rfl ?_ ?_
  · obtain ⟨o, ho, _⟩ := hc'; exact ⟨o, ho⟩
  · intro p hp
    obtain ⟨o, e, q⟩ := S.ents p hp
    refine ⟨o, k _ _ (fun z => ?_) e, q⟩
    exact (List.nodup_append.mp S.nodup).2.2 _ hL p.1 (List.mem_map_of_mem hp) z.symm
  · obtain ⟨mL, hn, hm⟩ := S.lo.ns
    refine ⟨⟨mL, hn.at' fun o e => k _ o (Ne.symm (S.lo.ne x c (mem_of_lookup hc))) e, fun z u hz hu => ?_⟩, fun z c' hz hc'' => ?_, S.lo.apart, S.lo.ne, fun z c' hm => ?_⟩
    · have : z ≠ x := fun q => by rw [q, hx] at hz; cases hz
      rw [show upd m x v z = m z from if_neg this] at hu; exact hm z u hz hu
    · by_cases q : z = x
      · subst q
        rw [hc] at hc''; cases hc''
        exact ⟨_, hc', fun u hu => by simpa [upd] using hu⟩
      · rw [show upd m x v z = m z from if_neg q]
        obtain ⟨v₁, cv', b⟩ := S.lo.cell z c' hz hc''
        refine ⟨v₁, IsCell_keeps cv' fun o e => ?_, b⟩
        exact (fun o e => k c' o (fun q' => q (name_of_addr S.lo.apart (mem_of_lookup hc'') (q' ▸ mem_of_lookup hc))) e) o e
    · by_cases q : c' = c
      · obtain ⟨o, ho, _⟩ := hc'; exact ⟨o, q ▸ ho⟩
      · obtain ⟨o, e⟩ := S.lo.ex z c' hm; exact ⟨o, k _ _ q e⟩
end

theorem bindL_eq {kindOf : Str → Option NameKind} {x : Str} (hx : kindOf x = some .local) : ∀ (binds : List (Str × Value)) (m : Str → Option Value),
    bindL kindOf binds m x = (binds.reverse.lookup x).or (m x)
  | [], m => by simp [bindL]
  | (n, v) :: r, m => by
    rw [bindL, bindL_eq hx r, List.reverse_cons, List.lookup_append, Option.or_assoc]
    congr 1
    by_cases q : x = n
    · subst q; rw [if_pos hx]; simp
    · have h' : (x == n) = false := by simpa using q
      split <;> simp [List.lookup, h', q]
theorem bindC_eq {kindOf : Str → Option NameKind} {x : Str} (hx : kindOf x = some .cell) : ∀ (binds : List (Str × Value)) (m : Str → Option Value),
    bindC kindOf binds m x = (binds.reverse.lookup x).or (m x)
  | [], m => by simp [bindC]
  | (n, v) :: r, m => by
    rw [bindC, bindC_eq hx r, List.reverse_cons, List.lookup_append, Option.or_assoc]
    congr 1
    by_cases q : x = n
    · subst q; rw [if_neg (by rw [hx]; simp)]; simp
    · have h' : (x == n) = false := by simpa using q
      split <;> simp [List.lookup, h', q]

abbrev ownOf (env : Env) : List Addr := env.locals :: env.cells.map (·.2)

section
variable {prog : Program} {w : World} {A : Around} {E : Value → Shared → Prop} {s : Shared} {K : Frag} {B : Base}
  {name qual : Str} {params : Arguments} {body : List Stmt} {scope : Scope} {dV kV doc pm cdv ct oc : Value} {an od : Option Addr} {osl : Array (Option Value)} {f : Addr} {vals : List Value} {binds : List (Str × Value)}

theorem cells_pairwise_nodup : ∀ {cs : List (Str × Addr)}, (cs.Pairwise fun x y => x.2 ≠ y.2) → (cs.map (·.2)).Nodup
  | [], _ => .nil
  | c :: r, h => by
    obtain ⟨a, b⟩ := List.pairwise_cons.mp h
    rw [List.map_cons, List.nodup_cons]
    exact ⟨fun q => by obtain ⟨d, hd, e⟩ := List.mem_map.mp q; exact a d hd e.symm, cells_pairwise_nodup b⟩

theorem cellsFrom_fst : ∀ (names : List (Str × NameKind)) (n n' : Nat) (acc acc' : List (Str × Addr)), acc.map (·.1) = acc'.map (·.1) →
    (cellsFrom n names acc).map (·.1) = (cellsFrom n' names acc').map (·.1)
  | [], _, _, _, _, e => e
  | (x, k) :: r, n, n', acc, acc', e => by
    unfold cellsFrom
    split
    · exact cellsFrom_fst r _ _ _ _ (by simp [e])
    · exact cellsFrom_fst r _ _ _ _ e
theorem lookup_of_nodup : ∀ {l : List (Str × Addr)} {n : Str} {c : Addr}, (l.map (·.1)).Nodup → (n, c) ∈ l → l.lookup n = some c
  | (k, d) :: r, n, c, hn, hm => by
    rw [List.map_cons, List.nodup_cons] at hn
    rw [List.lookup_cons]
    rcases List.mem_cons.mp hm with e | hm
    · cases e; simp
    · have : (n == k) = false := by
        rw [beq_eq_false_iff_ne]; intro q; have h3 : n ∈ r.map (·.1) := List.mem_map_of_mem hm; exact hn.1 (q ▸ h3)
      rw [this]; exact lookup_of_nodup hn.2 hm

/-- the start of a call: the objects ps are handed over -/
theorem enter {hp : Heap} {tk₀ : Nat} {Q : Value → Shared → Prop} (ps : List Ent) (T : Tp K B) (sub : B.In hp) (he : Ents ps hp) (hnd : (ps.map (·.1)).Nodup) (hB : ∀ a ∈ ps.map (·.1), B a = none)
    (hf : K.lookup f = some ⟨oc, od, .func (fnOf name qual params body scope dV kV doc pm an cdv ct), osl⟩) (hcd : codeIn K cdv qual = true) (hroom : A.depth < recursionLimit)
    (hbind : bindArgs (fnOf name qual params body scope dV kV doc pm an cdv ct) ⟨vals, []⟩ = pure binds)
    (hkind : ∀ n, ∀ x ∈ binds, scope.names.lookup x.1 = some .local ∨ (scope.names.lookup x.1 = some .cell ∧ ((cellsFrom n scope.names []).lookup x.1).isSome = true))
    (h : ∀ L h' tk, hp.objs.size ≤ L → Fm (ps.map (·.1)) B hp (ownOf (envX qual scope L f cdv (cellsFrom (L + 1) scope.names []))) (envX qual scope L f cdv (cellsFrom (L + 1) scope.names [])) B (fun x => binds.reverse.lookup x) ps h' →
      wpAny (model prog w) (A.deeper (envX qual scope L f cdv (cellsFrom (L + 1) scope.names []))) (execs body (envX qual scope L f cdv (cellsFrom (L + 1) scope.names [])))
        (fun fl s' => Q (match fl with | .ret v => v | _ => .none) s') (fun _ _ => False) (mk s h' tk))
    (hcn : ((cellsFrom 0 scope.names []).map (·.1)).Nodup) (hco : scope.isCoroutine = false) (hgen : scope.isGenerator = false) (hk : scope.kind = .function) :
    wpAny (model prog w) A (call (.ref f) vals) Q E (mk s hp tk₀) := by
  refine wpAny_call (codeAny_call_cells (fd := fnOf name qual params body scope dV kV doc pm an cdv ct) (body := body) (binds := binds) hroom ((T.k sub) _ _ hf) rfl (T.lim sub) (codeRec_of (T.k sub) hcd) rfl hbind rfl (hkind _) (fun s₁ X => ?_) hco hgen hk)
  obtain ⟨h₁, tk, hs⟩ := X.toInCall.same
  have hs : s₁ = mk s h₁ tk := hs
  subst hs
  let env := envX qual scope hp.objs.size f cdv (cellsFrom (hp.objs.size + 1) scope.names [])
  have X' : InCallC (mk s hp tk₀) env.locals (bindL env.kindOf binds fun _ => none) env.cells (bindC env.kindOf binds fun _ => none) (mk s h₁ tk) := X
  have none_of : ∀ a, hp.objs.size ≤ a → hp.get? a = none := fun a ha => by
    cases e : hp.get? a with
    | none => rfl
    | some o' => exact absurd (Heap.lt_size e) (Nat.not_lt.mpr ha)
  have own_ge : ∀ a ∈ ownOf env, hp.objs.size ≤ a := fun a ha => by
    rcases List.mem_cons.mp ha with q | q
    · exact Nat.le_of_eq q.symm
    · obtain ⟨⟨n, c⟩, hc, rfl⟩ := List.mem_map.mp q
      exact Nat.le_of_lt (X'.above n c hc)
  have ps_lt : ∀ a ∈ ps.map (·.1), a < hp.objs.size := fun a ha => by
    obtain ⟨p, hp, rfl⟩ := List.mem_map.mp ha
    obtain ⟨o, e, _⟩ := he p hp
    exact Heap.lt_size e
  have cex : ∀ n c, (n, c) ∈ env.cells → ∃ o, h₁.get? c = some o := fun n c hc => by
    have hl : env.cells.lookup n = some c := lookup_of_nodup (by
      show ((cellsFrom (hp.objs.size + 1) scope.names []).map (·.1)).Nodup
      rw [cellsFrom_fst scope.names _ 0 [] [] rfl]; exact hcn) hc
    obtain ⟨o, ho, _⟩ := X'.cell n c hl
    exact ⟨o, ho⟩
  have S : Fm (ps.map (·.1)) B hp (ownOf env) env B (fun x => binds.reverse.lookup x) ps h₁ := {
    mono := .rfl
    sub := fun b o e => X'.toInCall.keep b o (sub b o e)
    keep := fun b o _ e => X'.toInCall.keep b o e
    off := fun _ _ _ n => n
    live := fun b o e => ⟨o, X'.toInCall.keep b o e⟩
    lo := ⟨⟨_, X'.toInCall.ns, fun x v hx hv => by rw [bindL_eq hx]; simpa using hv⟩, fun x c hx hc => by
      have := X'.cell x c hc
      rw [bindC_eq hx] at this
      have : h₁.IsCell c ((binds.reverse.lookup x).or none) := this
      exact ⟨_, this, fun v hv => by simpa using hv⟩, X'.apart, fun x c hc => Nat.ne_of_gt (X'.above x c hc), cex⟩
    ents := fun p hp => let ⟨o, e, q⟩ := he p hp; ⟨o, X'.toInCall.keep _ _ e, q⟩
    nodup := by
      refine List.nodup_append.mpr ⟨?_, hnd, fun a ha b hb q => ?_⟩
      · refine List.nodup_cons.mpr ⟨fun q => ?_, cells_pairwise_nodup X'.apart⟩
        obtain ⟨⟨n, c⟩, hc, e⟩ := List.mem_map.mp q
        exact Nat.ne_of_gt (X'.above n c hc) e
      · have h1 := own_ge a ha
        have h2 := ps_lt b hb
        rw [q] at h1
        exact absurd h2 (Nat.not_lt.mpr h1)
    apart := fun a ha => by
      rcases List.mem_append.mp ha with q | q
      · cases e : B a with
        | none => rfl
        | some o => have := sub a o e; rw [none_of a (own_ge a q)] at this; cases this
      · exact hB a q
    fresh := fun a ha hW => by
      rcases List.mem_append.mp ha with q | q
      · exact none_of a (own_ge a q)
      · exact absurd q hW
    there := fun a ha => by
      rcases List.mem_cons.mp ha with q | q
      · obtain ⟨o, _, _, ho, _⟩ := X'.toInCall.ns; exact ⟨o, q ▸ ho⟩
      · obtain ⟨⟨n, c⟩, hc, rfl⟩ := List.mem_map.mp q
        exact cex n c hc
    wex := fun a ha => by
      obtain ⟨p, hp', rfl⟩ := List.mem_map.mp ha
      obtain ⟨o, e, _⟩ := he p hp'
      exact ⟨o, e⟩ }
  exact wpAny_mono (h _ h₁ tk (Nat.le_refl _) S) (fun _ _ q => q) fun _ _ q => q.elim

/-- a def of the top is called by its name -/
theorem callF {M : Model} {Q : Value → Shared → Prop} {pos : Pos} {e : Expr} {rest : List Expr} {env : Env} (T : Tp K B) (hf : fnIn K f = true)
    (h : wpAny M A (spliced (backTo pos (starEach (e :: rest) env))) (fun vs s₁ => B.In s₁.heap ∧ wpAny M A (call (.ref f) vs) Q E s₁) E s)
    (he : starEach (e :: rest) env = (false, eval e env) :: starEach rest env := by rfl) (hplain : (backTo pos (starEach rest env)).any (·.1) = false := by rfl) :
    wpAny M A (callWith pos (.ref f) [] (backTo pos (starEach (e :: rest) env)) []) Q E s := by
  rw [he] at h ⊢
  refine callWith_of (P := B.In) (by show ((false || (backTo pos (starEach rest env)).any (·.1)) || false) = false; rw [hplain]; rfl) (fun h hB => ?_) (Calls.evalArgs_plain h)
  have hk : keepIn K (.ref f) = true := by
    unfold fnIn at hf
    unfold keepIn
    split at hf
    · rename_i q; dsimp only; rw [q]
    · cases hf
  exact keeps_K hk h (T.k hB)
end
/-! expression rules over a frame -/

/-- so many bits at most -/
def Sm (k : Nat) (x : Int) : Prop := x.natAbs < 2 ^ k
theorem Sm.le {k l : Nat} {x : Int} (h : Sm k x) (hl : k ≤ l) : Sm l x := Nat.lt_of_lt_of_le h (Nat.pow_le_pow_right (by decide) hl)
theorem Sm.mul {k l : Nat} {x y : Int} (hx : Sm k x) (hy : Sm l y) : Sm (k + l) (x * y) := by
  unfold Sm at *
  rw [Int.natAbs_mul, Nat.pow_add]
  exact Nat.mul_lt_mul'' hx hy
theorem Sm.neg {k : Nat} {x : Int} (hx : Sm k x) : Sm k (-x) := by unfold Sm at *; rwa [Int.natAbs_neg]
theorem Sm.add {k l n : Nat} {x y : Int} (hx : Sm k x) (hy : Sm l y) (h1 : k < n) (h2 : l < n) : Sm n (x + y) := by
  have a : x.natAbs < 2 ^ (n - 1) := Nat.lt_of_lt_of_le hx (Nat.pow_le_pow_right (by decide) (by omega))
  have b : y.natAbs < 2 ^ (n - 1) := Nat.lt_of_lt_of_le hy (Nat.pow_le_pow_right (by decide) (by omega))
  have e : 2 ^ n = 2 ^ (n - 1) * 2 := by rw [← Nat.pow_succ]; congr 1; omega
  have := Int.natAbs_add_le x y
  unfold Sm
  omega
theorem Sm.sub {k l n : Nat} {x y : Int} (hx : Sm k x) (hy : Sm l y) (h1 : k < n) (h2 : l < n) : Sm n (x - y) := by
  rw [Int.sub_eq_add_neg]; exact hx.add hy.neg h1 h2
theorem Sm.lit {x : Int} (k : Nat) (h : x.natAbs < 2 ^ k) : Sm k x := h

section
variable {prog : Program} {w : World} {A : Around} {E : Value → Shared → Prop} {s : Shared} {K : Frag} {tk : Nat}
variable {W : List Addr} {B₀ B B' : Base} {h₀ h h' : Heap} {own : List Addr} {env : Env} {m : Str → Option Value} {ps : List Ent} {x : Str} {pos : Pos} {v : Value}

theorem newAt {h : Heap} : h.get? h.objs.size = none := by
  cases e : h.get? h.objs.size with
  | none => rfl
  | some o => exact absurd (Heap.lt_size e) (Nat.lt_irrefl _)

theorem tup_of {t : Addr} {vs : List Value} {n : Nat} (s : B.In h) (e : B t = some (tupO vs n)) : IsTup h t vs.toArray := ⟨_, s _ _ e, rfl, n, rfl⟩
theorem lst_of {t : Addr} {vs : List Value} {n : Nat} (s : B.In h) (e : B t = some (lstO vs n)) : h.IsList t vs.toArray := ⟨_, s _ _ e, rfl, n, rfl⟩
theorem pln_of {t : Addr} {vs : List Value} {n : Nat} (s : B.In h) (e : B t = some (lstO vs n)) : h.PlainList t vs.toArray := ⟨n, s _ _ e⟩
theorem Fm.plain {a : Addr} {vs : List Value} (S : Fm W B₀ h₀ own env B m ps h) (ha : (a, LstP vs) ∈ ps) : h.PlainList a vs.toArray := by
  obtain ⟨o, e, n, rfl⟩ := S.ents _ ha
  exact ⟨n, e⟩

theorem mkTup {vs : List Value} {Q : Value → Shared → Prop} (S : Fm W B₀ h₀ own env B m ps h)
    (hq : ∀ B' h' t, B.le B' → B' t = some (tupO vs 0) → Fm W B₀ h₀ own env B' m ps h' → Q (.ref t) (mk s h' tk)) (hsz : vs.length ≤ sizeLine := by exact Nat.le_of_ble_eq_true rfl) :
    wpAny (model prog w) A (newTuple vs) Q E (mk s h tk) := by
  refine wpAny_newObj_type ?_ (by show vs.toArray.size ≤ sizeLine; rw [List.size_toArray]; exact hsz)
  have k : ∀ b o, h.get? b = some o → (h.push (tupO vs 0)).get? b = some o := fun b o e => Heap.get?_push_of_some _ e
  obtain ⟨B', X, e⟩ := Ext.alloc (a := h.objs.size) (o := tupO vs 0) S.sub newAt k (Heap.get?_push_size _ rfl)
  exact hq B' _ _ X.le e (S.ext X)

/-- a list display: one's own -/
theorem mkLst {vs : List Value} {Q : Value → Shared → Prop} (S : Fm W B₀ h₀ own env B m ps h)
    (hq : ∀ h' a, h.get? a = none → Fm W B₀ h₀ own env B m ((a, LstP vs) :: ps) h' → Q (.ref a) (mk s h' tk)) (hsz : vs.length ≤ sizeLine := by exact Nat.le_of_ble_eq_true rfl) :
    wpAny (model prog w) A (newList vs) Q E (mk s h tk) := by
  refine wpAny_newObj_type ?_ (by show vs.toArray.size ≤ sizeLine; rw [List.size_toArray]; exact hsz)
  exact hq _ _ newAt (S.push newAt (fun b o e => Heap.get?_push_of_some _ e) (Heap.get?_push_size _ rfl) ⟨0, rfl⟩)
/-- a list display: never changed -/
theorem mkLstB {vs : List Value} {Q : Value → Shared → Prop} (S : Fm W B₀ h₀ own env B m ps h)
    (hq : ∀ B' h' t, B.le B' → B' t = some (lstO vs 0) → Fm W B₀ h₀ own env B' m ps h' → Q (.ref t) (mk s h' tk)) (hsz : vs.length ≤ sizeLine := by exact Nat.le_of_ble_eq_true rfl) :
    wpAny (model prog w) A (newList vs) Q E (mk s h tk) := by
  refine wpAny_newObj_type ?_ (by show vs.toArray.size ≤ sizeLine; rw [List.size_toArray]; exact hsz)
  have k : ∀ b o, h.get? b = some o → (h.push (lstO vs 0)).get? b = some o := fun b o e => Heap.get?_push_of_some _ e
  obtain ⟨B', X, e⟩ := Ext.alloc (a := h.objs.size) (o := lstO vs 0) S.sub newAt k (Heap.get?_push_size _ rfl)
  exact hq B' _ _ X.le e (S.ext X)

theorem wpAny_List {elts : List Expr} {pos : Pos} {Q : Value → Shared → Prop}
    (h : wpAny (model prog w) A (spliced (backTo pos (starEach elts env))) (fun vs s₁ => wpAny (model prog w) A (newList vs) Q E s₁) E s) : wpAny (model prog w) A (eval (.List elts pos) env) Q E s := List_ h

/-- an item of a tuple of the base -/
theorem itemT {value slice : Expr} {t : Addr} {vs : List Value} {n : Nat} {k : Int} {u : Tok} {Q : Value → Shared → Prop} (S : Fm W B₀ h₀ own env B m ps h) (ht : B t = some (tupO vs n))
    (h0 : 0 ≤ k) (hk : k < 2 ^ 63) (hx : vs[k.toNat]? = some v) (hq : Q v (mk s h tk))
    (hs : subscripted slice false (.ref t) (.int k u) = operate [.ref t, .int k u] (getItem (.ref t) (.int k u)) := by with_unfolding_all rfl) :
    wpAny (model prog w) A (subscriptTail value slice (.ref t) (.int k u)) Q E (mk s h tk) := by
  have hlt : k.toNat < vs.length := by
    rcases Nat.lt_or_ge k.toNat vs.length with h1 | h1
    · exact h1
    · rw [List.getElem?_eq_none h1] at hx; cases hx
  refine item_tupleT (j := k.toNat) (tup_of S.sub ht) (by omega) hk ?_ hx hq hs
  unfold seqIndex?
  have h1 : ¬ k < 0 := by omega
  have h2 : k < (vs.length : Int) := by omega
  simp [h1, h0, h2]
/-- an item of a list -/
theorem itemL {value slice : Expr} {t : Addr} {vs : List Value} {k : Int} {u : Tok} {Q : Value → Shared → Prop} (ht : h.PlainList t vs.toArray)
    (h0 : 0 ≤ k) (hk : k < 2 ^ 63) (hx : vs[k.toNat]? = some v) (hq : Q v (mk s h tk))
    (hs : subscripted slice false (.ref t) (.int k u) = operate [.ref t, .int k u] (getItem (.ref t) (.int k u)) := by with_unfolding_all rfl) :
    wpAny (model prog w) A (subscriptTail value slice (.ref t) (.int k u)) Q E (mk s h tk) :=
  tail_any (s := mk s h tk) (T := "list") (Heap.IsList.typeIs (s := mk s h tk) ht.isList) slot_list_getitem.lookup (wpAny_getItem_list (s := mk s h tk) ht.isList h0 hk (by simpa using hx) hq) hs

theorem mulI {a b : Int} {t u : Tok} {Q : Value → Shared → Prop} {k l : Nat} (ha : Sm k a) (hb : Sm l b) (hk : k ≤ 500000) (hl : l ≤ 500000) (hq : ∀ t tk', Q (.int (a * b) t) (mk s h tk')) :
    wpAny (model prog w) A (binaryOp .Mult (.int a t) (.int b u)) Q E (mk s h tk) := by
  have bits : ∀ (x : Int) (k : Nat), k ≤ 500000 → Sm k x → Builtin.Int.intBits x ≤ 2 ^ 20 := fun x k hk hx => by
    have e : (2 : Nat) ^ 20 = 1048576 := by decide
    unfold Builtin.Int.intBits
    split
    · exact Nat.zero_le _
    · rename_i h0
      have h0' : x.natAbs ≠ 0 := by simpa using h0
      have := (Nat.log2_lt h0').mpr hx
      omega
  exact PyProof.Rows.mul_int (hq _ _) (IntMulOk.of_bits (bits a k hk ha) (bits b l hl hb))
theorem divI {a b : Int} {t u : Tok} {Q : Value → Shared → Prop} {k : Nat} (hb : b ≠ 0) (hs : Sm k b) (hk : k ≤ 9000) (hq : ∀ t tk', Q (.int (a.fdiv b) t) (mk s h tk')) :
    wpAny (model prog w) A (binaryOp .FloorDiv (.int a t) (.int b u)) Q E (mk s h tk) :=
  floordiv_int hb (hq _ _) (.inl (PyProof.noPylong_of_log2 (Nat.lt_of_lt_of_le ((Nat.log2_lt (by simpa using hb)).mpr hs) hk)))
theorem addI {a b : Int} {t u : Tok} {Q : Value → Shared → Prop} (hq : ∀ t tk', Q (.int (a + b) t) (mk s h tk')) : wpAny (model prog w) A (binaryOp .Add (.int a t) (.int b u)) Q E (mk s h tk) := PyProof.Rows.add_int (hq _ _)
theorem subI {a b : Int} {t u : Tok} {Q : Value → Shared → Prop} (hq : ∀ t tk', Q (.int (a - b) t) (mk s h tk')) : wpAny (model prog w) A (binaryOp .Sub (.int a t) (.int b u)) Q E (mk s h tk) := PyProof.Rows.sub_int (hq _ _)
theorem modI {a b : Int} {t u : Tok} {Q : Value → Shared → Prop} (hb : b ≠ 0) (hq : ∀ t tk', Q (.int (a.fmod b) t) (mk s h tk')) : wpAny (model prog w) A (binaryOp .Mod (.int a t) (.int b u)) Q E (mk s h tk) := mod_int' hb (hq _ _)
theorem negI {a : Int} {t : Tok} {Q : Value → Shared → Prop} (hq : ∀ t tk', Q (.int (-a) t) (mk s h tk')) : wpAny (model prog w) A (unaryOp .USub (.int a t)) Q E (mk s h tk) := PyProof.Rows.neg_int (hq _ _)
theorem cI {i : Int} {k : Nat} {pos : Pos} {Q : Value → Shared → Prop} (hq : ∀ t tk', Q (.int i t) (mk s h tk')) : wpAny (model prog w) A (eval (.Constant (.int i) k pos) env) Q E (mk s h tk) := wpAny_Constant_int (hq _ _)
theorem absI {a : Int} {t : Tok} {Q : Value → Shared → Prop} (hq : ∀ t tk', Q (.int (a.natAbs : Int) t) (mk s h tk')) : wpAny (model prog w) A (call (.builtin "abs") [.int a t]) Q E (mk s h tk) := by
  refine PyProof.Rows.call_abs_int fun u tk' => ?_
  rw [show (if a < 0 then -a else a) = (a.natAbs : Int) by split <;> omega]
  exact hq _ _
/-- a tuple of the base, unpacked -/
theorem unpk {t : Addr} {vs : List Value} {n c : Nat} {Q : List Value → Shared → Prop} (hh : A.handled = none) (S : Fm W B₀ h₀ own env B m ps h) (ht : B t = some (tupO vs n)) (hc : c = vs.length)
    (hq : ∀ h', Fm W B₀ h₀ own env B m ps h' → Q vs (mk s h' tk)) : wpAny (model prog w) A (unpackItems (.ref t) c none) Q E (mk s h tk) := by
  subst hc
  have := unpackItems_tuple (prog := prog) (w := w) (A := A) (E := E) (s := mk s h tk) (t := t) (items := vs.toArray) (Q := Q) hh (tup_of S.sub ht) fun h' he =>
    hq h' (S.ext (Ext.keeps S.sub fun b o e => he b o (Nat.ne_of_lt (Heap.lt_size e)) e))
  rw [List.size_toArray] at this
  exact this
theorem asgT {elts : List Expr} {k : Nat} {pos : Pos} {t : Addr} {vs : List Value} {n : Nat} {Q : Unit → Shared → Prop} (hh : A.handled = none) (S : Fm W B₀ h₀ own env B m ps h) (ht : B t = some (tupO vs n))
    (hn : (assignEach elts env).length = vs.length) (hstar : (assignEach elts env).findIdx? (·.1) = none)
    (hq : ∀ h', Fm W B₀ h₀ own env B m ps h' → wpAny (model prog w) A (assignInOrder ((assignEach elts env).map (·.2)) vs) Q E (mk s h' tk)) :
    wpAny (model prog w) A (assign (.Tuple elts k pos) env (.ref t)) Q E (mk s h tk) := by
  obtain ⟨o, e, c, r⟩ := tup_of S.sub ht
  exact wpAny_assign_Tuple (s := mk s h tk) (items := vs.toArray) hh ⟨o, e, c, r⟩ (by simpa using hn) hstar fun h' he =>
    hq h' (S.ext (Ext.keeps S.sub fun b o e => he b o (Nat.ne_of_lt (Heap.lt_size e)) e))
end
/-! iterators -/

/-- the objects at wr are as they were in hd -/
def Hold (hd : Heap) (wr : List Addr) : List Ent := wr.map fun a => (a, fun o => hd.get? a = some o)
theorem Hold.fst (hd : Heap) (wr : List Addr) : (Hold hd wr).map (·.1) = wr := by simp [Hold, Function.comp_def]

/-- the name may be stored -/
def CanSt (env : Env) (own : List Addr) (x : Str) : Prop :=
  ∀ (M : Model) (A : Around) (E : Value → Shared → Prop) (s : Shared) (h : Heap) (tk : Nat) (W : List Addr) (B₀ : Base) (h₀ : Heap) (B : Base) (m : Str → Option Value) (ps : List Ent) (v : Value) (Q : Unit → Shared → Prop),
    Fm W B₀ h₀ own env B m ps h → (∀ h' tk', Fm W B₀ h₀ own env B (upd m x v) ps h' → Q () (mk s h' tk')) → wpAny M A (storeName env x v) Q E (mk s h tk)
theorem canL {env : Env} {own : List Addr} {x : Str} (hL : env.locals ∈ own) (hk : env.scope.kind = .function := by rfl) (hx : env.kindOf x = some .local := by rfl) : CanSt env own x :=
  fun _ _ _ _ _ _ _ _ _ _ _ _ _ _ S hq => st_L S hL hq hk hx
theorem canC {env : Env} {own : List Addr} {x : Str} {c : Addr} (hL : c ∈ own) (hk : env.scope.kind = .function := by rfl) (hx : env.kindOf x = some .cell := by rfl) (hc : env.cells.lookup x = some c := by rfl) : CanSt env own x :=
  fun _ _ _ _ _ _ _ _ _ _ _ _ _ _ S hq => st_C S hL hq hk hx hc

section
variable {W : List Addr} {B₀ B B' : Base} {h₀ h h' : Heap} {own : List Addr} {env : Env} {m : Str → Option Value} {ps : List Ent}

theorem Fm.lt (S : Fm W B₀ h₀ own env B m ps h) {a : Addr} (ha : a ∈ own ++ ps.map (·.1)) : ∃ o, h.get? a = some o := by
  rcases List.mem_append.mp ha with q | q
  · exact S.there a q
  · obtain ⟨p, hp, rfl⟩ := List.mem_map.mp q
    obtain ⟨o, e, _⟩ := S.ents p hp; exact ⟨o, e⟩

theorem Fm.held {hd : Heap} {wr : List Addr} (S : Fm W B₀ h₀ own env B m (ps ++ Hold hd wr) h) : ∀ a ∈ wr, ∃ o, h.get? a = some o ∧ hd.get? a = some o := fun a ha => by
  obtain ⟨o, e, q⟩ := S.ents (a, fun o => hd.get? a = some o) (List.mem_append_right _ (List.mem_map.mpr ⟨a, ha, rfl⟩))
  exact ⟨o, e, q⟩

/-- the things held, held anew -/
theorem Fm.rehold {hd : Heap} {wr : List Addr} (S : Fm W B₀ h₀ own env B m (ps ++ Hold hd wr) h) : Fm W B₀ h₀ own env B m (ps ++ Hold h wr) h :=
  have e : (ps ++ Hold h wr).map (·.1) = (ps ++ Hold hd wr).map (·.1) := by simp [Hold.fst]
  { S with
    ents := fun p hp => by
      rcases List.mem_append.mp hp with q | q
      · exact S.ents p (List.mem_append_left _ q)
      · obtain ⟨a, ha, rfl⟩ := List.mem_map.mp q
        obtain ⟨o, eo, _⟩ := S.held a ha
        exact ⟨o, eo, eo⟩
    nodup := by rw [e]; exact S.nodup
    apart := by rw [e]; exact S.apart
    fresh := by rw [e]; exact S.fresh }

/-- the things held are turned -/
theorem Fm.turned {hd : Heap} {wr : List Addr} (S : Fm W B₀ h₀ own env B m (ps ++ Hold hd wr) h) (k : ∀ b o, b ∉ wr → h.get? b = some o → h'.get? b = some o) (ex : ∀ b ∈ wr, ∃ o, h'.get? b = some o)
    (hL : env.locals ∈ own) (hC : ∀ x c, (x, c) ∈ env.cells → c ∉ wr) : Fm W B₀ h₀ own env B m (ps ++ Hold h' wr) h' := by
  have inl : ∀ b ∈ wr, b ∈ (ps ++ Hold hd wr).map (·.1) := fun b hb => by rw [List.map_append, Hold.fst]; exact List.mem_append_right _ hb
  have hO : ∀ a ∈ own, a ∉ wr := fun a ha q => (List.nodup_append.mp S.nodup).2.2 a ha a (inl a q) rfl
  have X : ExtW wr B h B h' := ⟨.rfl, fun b o e => k b o (fun q => by rw [S.apart b (List.mem_append_right _ (inl b q))] at e; cases e) (S.sub b o e), k, fun _ _ _ n => n,
    fun b o e => by by_cases q : b ∈ wr; exact ex b q; exact ⟨o, k b o q e⟩⟩
  refine S.extW X (hO _ hL) hC hO inl (by simp [Hold.fst]) fun p hp => ?_
  rcases List.mem_append.mp hp with q | q
  · obtain ⟨o, e, po⟩ := S.ents p (List.mem_append_left _ q)
    refine ⟨o, k _ _ (fun z => ?_) e, po⟩
    have := S.nodup
    rw [List.map_append, Hold.fst, ← List.append_assoc] at this
    exact (List.nodup_append.mp this).2.2 p.1 (List.mem_append_right _ (List.mem_map_of_mem q)) p.1 z rfl
  · obtain ⟨a, ha, rfl⟩ := List.mem_map.mp q
    obtain ⟨o, e⟩ := ex a ha
    exact ⟨o, e, e⟩

/-- the things held are let go -/
theorem Fm.gone {hd : Heap} {wr : List Addr} (S : Fm W B₀ h₀ own env B m (ps ++ Hold hd wr) h) (k : ∀ b o, b ∉ wr → h.get? b = some o → h'.get? b = some o)
    (hL : env.locals ∈ own) (hC : ∀ x c, (x, c) ∈ env.cells → c ∉ wr) (hW : ∀ a ∈ wr, a ∉ W) : Fm W B₀ h₀ own env B m ps h' := by
  have inl : ∀ b ∈ wr, b ∈ own ++ (ps ++ Hold hd wr).map (·.1) := fun b hb => by rw [List.map_append, Hold.fst]; exact List.mem_append_right _ (List.mem_append_right _ hb)
  have inp : ∀ b, b ∈ own ++ ps.map (·.1) → b ∈ own ++ (ps ++ Hold hd wr).map (·.1) := fun b hb => by
    rw [List.map_append, ← List.append_assoc]; exact List.mem_append_left _ hb
  have nd := S.nodup
  rw [List.map_append, Hold.fst, ← List.append_assoc] at nd
  have nO : ∀ a, a ∈ own ++ ps.map (·.1) → a ∉ wr := fun a ha q => (List.nodup_append.mp nd).2.2 a ha a q rfl
  have h0 : ∀ b o, h₀.get? b = some o → b ∉ wr := fun b o e q => by rw [S.fresh b (inl b q) (hW b q)] at e; cases e
  exact {
    mono := S.mono
    sub := fun b o e => k b o (fun q => by rw [S.apart b (inl b q)] at e; cases e) (S.sub b o e)
    keep := fun b o hb e => k b o (h0 b o e) (S.keep b o hb e)
    off := S.off
    live := fun b o e => let ⟨o', e'⟩ := S.live b o e; ⟨o', k _ _ (h0 b o e) e'⟩
    lo := S.lo.keepsBut wr (nO _ (List.mem_append_left _ hL)) hC k
    ents := fun p hp => let ⟨o, e, q⟩ := S.ents p (List.mem_append_left _ hp); ⟨o, k _ _ (nO _ (List.mem_append_right _ (List.mem_map_of_mem hp))) e, q⟩
    nodup := (List.nodup_append.mp nd).1
    apart := fun a ha => S.apart a (inp a ha)
    fresh := fun a ha => S.fresh a (inp a ha)
    there := fun a ha => let ⟨o, e⟩ := S.there a ha; ⟨o, k _ _ (nO _ (List.mem_append_left _ ha)) e⟩
    wex := S.wex }
end

/-- an iterator: n turns, the i-th turns the names by P i -/
structure Itr (prog : Program) (w : World) (A : Around) (tgt : Expr) (B : Base) (I : Addr) (wr : List Addr) (n : Nat) (P : Nat → (Str → Option Value) → (Str → Option Value) → Prop)
    (ok : Env → List Addr → Prop) (St : Nat → Heap → Prop) : Prop where
  stay : ∀ i h h', St i h → B.In h → B.In h' → (∀ b ∈ wr, ∀ o, h.get? b = some o → h'.get? b = some o) → St i h'
  self : ∀ i (s : Shared) (Q : Value → Shared → Prop) (E : Value → Shared → Prop), St i s.heap → Q (.ref I) s → wpAny (model prog w) A (pyIter (.ref I)) Q E s
  turn : ∀ (W : List Addr) (B₀ : Base) (h₀ : Heap) (own : List Addr) (env : Env) (B₁ : Base) (m : Str → Option Value) (ps : List Ent) (s : Shared) (h hd : Heap) (tk i : Nat) (X K : Shared → Prop) (E : Value → Shared → Prop),
    B.le B₁ → i ≤ n → St i h → Fm W B₀ h₀ own env B₁ m (ps ++ Hold hd wr) h → env.locals ∈ own → (∀ x c, (x, c) ∈ env.cells → c ∉ wr) → (∀ a ∈ wr, a ∉ W) → ok env own →
    (i < n → ∀ m' h' tk', P i m m' → St (i + 1) h' → Fm W B₀ h₀ own env B₁ m' (ps ++ Hold h' wr) h' → K (mk s h' tk')) →
    (i = n → ∀ h' tk', Fm W B₀ h₀ own env B₁ m ps h' → X (mk s h' tk')) →
    wpAny (model prog w) A (pyNext (.ref I)) (fun r s₁ => match r with
      | none => X s₁
      | some v => wpAny (model prog w) A (letOwnedTupleGo tgt (.ref I) v) (fun _ s₁' => wpAny (model prog w) A (assign tgt env v) (fun _ s₂ => K s₂) E s₁') E s₁) E (mk s h tk)

section
variable {prog : Program} {w : World} {A : Around} {E : Value → Shared → Prop} {s : Shared} {tk : Nat}
variable {W : List Addr} {B₀ B B' : Base} {h₀ h h' : Heap} {own : List Addr} {env : Env} {m : Str → Option Value} {ps : List Ent} {x : Str} {pos : Pos} {v : Value}

/-- one of the library's walks, its item stored in a name -/
theorem itrWalks {I : Addr} {fp wr : List Addr} {n : Nat} {Pv : Nat → Value → Prop} {St : Nat → Heap → Prop} (V : Walks prog w A I fp wr n Pv St)
    (ex : ∀ i h, St i h → ∀ b ∈ wr, ∃ o, h.get? b = some o) (hb : ∀ b ∈ fp, b ∉ wr → ∃ o, B b = some o) :
    Itr prog w A (.Name x pos) B I wr n (fun i m m' => ∃ v, Pv i v ∧ m' = upd m x v) (fun env own => CanSt env own x) St where
  stay := fun i h h' st sb sb' k => V.frame i h h' st fun b hbf o e => by
    by_cases q : b ∈ wr
    · exact k b q o e
    · obtain ⟨o', e'⟩ := hb b hbf q
      rw [sb b o' e'] at e
      cases e
      exact sb' b _ e'
  self := V.self
  turn := fun W B₀ h₀ own env B₁ m ps s h hd tk i X K E le hi st S hL hC hW ok hK hX => by
    rcases Nat.lt_or_eq_of_le hi with h1 | h1
    · refine V.item i (mk s h tk) _ _ h1 st fun v h₂ tk₂ pv st₂ k => ?_
      refine wpAny_of_eq (t := letOwnedTupleGo (.Name x pos) (.ref I) v) (a := ()) rfl ?_
      refine wpAny_assign_Name ?_
      have S₂ := S.turned k (ex _ _ st₂) hL hC
      refine ok _ _ _ s h₂ tk₂ W B₀ h₀ B₁ m _ v _ S₂ fun h₃ tk₃ S₃ => ?_
      have e : ∀ b ∈ wr, ∀ o, h₂.get? b = some o → h₃.get? b = some o := fun b hb o e => by
        obtain ⟨o', e1, e2⟩ := S₃.held b hb
        rw [e] at e2; cases e2; exact e1
      refine hK h1 (upd m x v) h₃ tk₃ ⟨v, pv, rfl⟩ ?_ S₃.rehold
      exact V.frame _ _ _ st₂ fun b hbf o eb => by
        by_cases q : b ∈ wr
        · exact e b q o eb
        · obtain ⟨o', e'⟩ := hb b hbf q
          have e1 := S₂.sub b o' (le b o' e')
          rw [e1] at eb
          cases eb
          exact S₃.sub b _ (le b _ e')
    · subst h1
      exact V.done (mk s h tk) _ _ st fun h₂ tk₂ k => hX rfl h₂ tk₂ (S.gone k hL hC hW)

/-- the items of a list of the base, each in a name -/
theorem iterL (x : Str) {l : Addr} {vs : List Value} {c : Nat} {Q : Value → Shared → Prop} (hh : A.handled = none) (S : Fm W B₀ h₀ own env B m ps h) (hl : B l = some (lstO vs c))
    (hq : ∀ h' I, (∀ pos, Itr prog w A (.Name x pos) B I [I] vs.length (fun i m m' => ∃ v, vs[i]? = some v ∧ m' = upd m x v) (fun env own => CanSt env own x) (fun i h => h.IsListIter I l i ∧ h.IsList l vs.toArray)) →
      NewW W env [I] → (h'.IsListIter I l 0 ∧ h'.IsList l vs.toArray) → Fm W B₀ h₀ own env B m (ps ++ Hold h' [I]) h' → Q (.ref I) (mk s h' tk)) :
    wpAny (model prog w) A (pyIter (.ref l)) Q E (mk s h tk) := by
  have hL := lst_of S.sub hl
  have hne : l ≠ h.objs.size := by obtain ⟨o, e, _⟩ := hL; exact Nat.ne_of_lt (Heap.lt_size e)
  refine wpAny_pyIter_list (s := mk s h tk) hL ?_
  have k : ∀ b o, h.get? b = some o → (h.push { cls := .type "list_iterator", data := .fields #[.ref l, .int 0 0] }).get? b = some o := fun b o e => Heap.get?_push_of_some _ e
  have e : (h.push { cls := .type "list_iterator", data := .fields #[.ref l, .int 0 0] }).get? h.objs.size = some { cls := .type "list_iterator", data := .fields #[.ref l, .int 0 0] } := Heap.get?_push_size _ rfl
  refine hq _ h.objs.size ?_ (S.newW fun a ha => by rw [List.mem_singleton.mp ha]; exact newAt) ⟨⟨_, e, rfl, rfl⟩, hL.at fun o e => k _ _ e⟩ ?_
  · intro pos
    have V := Walks.list (prog := prog) (w := w) (A := A) hh h.objs.size l hne vs.toArray
    have I0 := itrWalks (x := x) (pos := pos) (B := B) V (fun i h st b hb => by
      rw [List.mem_singleton.mp hb]; obtain ⟨⟨o, e, _⟩, _⟩ := st; exact ⟨o, e⟩) (fun b hb hw => by
      rcases List.mem_cons.mp hb with q | q
      · exact absurd (q ▸ List.mem_cons_self ..) hw
      · rw [List.mem_singleton.mp q]; exact ⟨_, hl⟩)
    simpa using I0
  · exact (S.push newAt k e (P := fun o => (h.push { cls := .type "list_iterator", data := .fields #[.ref l, .int 0 0] }).get? h.objs.size = some o) e).perm (List.perm_append_comm (l₁ := [_]) (l₂ := ps))

/-- a walk over tuples of two, stored in two names -/
theorem itrWalksT {I : Addr} {fp wr : List Addr} {n : Nat} {Pt : Nat → Array Value → Prop} {St : Nat → Heap → Prop} {Mid : Nat → Addr → Heap → Prop} {a b : Str} {pa pb tp : Pos} {kk : Nat} {Pv : Nat → Value → Value → Prop}
    (hh : A.handled = none) (V : WalksT prog w A I fp wr n Pt St Mid) (hP : ∀ i vals, Pt i vals → ∃ u v, vals = #[u, v] ∧ Pv i u v)
    (ex : ∀ i h, St i h → ∀ b ∈ wr, ∃ o, h.get? b = some o) (exM : ∀ i T h, Mid i T h → ∀ b ∈ wr, ∃ o, h.get? b = some o) (hb : ∀ b ∈ fp, b ∉ wr → ∃ o, B b = some o) :
    Itr prog w A (.Tuple [.Name a pa, .Name b pb] kk tp) B I wr n (fun i m m' => ∃ u v, Pv i u v ∧ m' = upd (upd m a u) b v) (fun env own => CanSt env own a ∧ CanSt env own b) St where
  stay := fun i h h' st sb sb' k => V.frame i h h' st fun b hbf o e => by
    by_cases q : b ∈ wr
    · exact k b q o e
    · obtain ⟨o', e'⟩ := hb b hbf q
      rw [sb b o' e'] at e
      cases e
      exact sb' b _ e'
  self := V.self
  turn := fun W B₀ h₀ own env B₁ m ps s h hd tk i X K E le hi st S hL hC hW ok hK hX => by
    rcases Nat.lt_or_eq_of_le hi with h1 | h1
    · refine V.item i (mk s h tk) _ _ h1 st fun T vals h₂ tk₂ pt hT hTT mid k => ?_
      obtain ⟨u, v, rfl, pv⟩ := hP i vals pt
      have S₂ := S.turned k (exM _ _ _ mid) hL hC
      refine V.go _ _ _ i T (mk s h₂ tk₂) _ _ mid fun h₃ st₃ k₃ => ?_
      have S₃ := S₂.turned k₃ (ex _ _ st₃) hL hC
      obtain ⟨o, eo, r⟩ := hTT
      have hT₃ : h₃.IsTuple T #[u, v] := ⟨o, k₃ T o (V.apart _ _ _ mid) eo, r⟩
      refine wpAny_assign_Tuple (s := mk s h₃ tk₂) hh hT₃ rfl rfl fun h₄ he₄ => ?_
      have S₄ := S₃.ext (Ext.keeps S₃.sub fun b o e => he₄ b o (Nat.ne_of_lt (Heap.lt_size e)) e)
      show wpAny _ _ (assignInOrder [assign (.Name a pa) env, assign (.Name b pb) env] [u, v]) _ _ _
      refine assignInOrder_cons (wpAny_assign_Name ?_)
      refine ok.1 _ _ _ s h₄ tk₂ W B₀ h₀ B₁ m _ u _ S₄ fun h₅ tk₅ S₅ => ?_
      refine assignInOrder_cons (wpAny_assign_Name ?_)
      refine ok.2 _ _ _ s h₅ tk₅ W B₀ h₀ B₁ _ _ v _ S₅ fun h₆ tk₆ S₆ => ?_
      refine assignInOrder_nil ?_
      have e : ∀ b ∈ wr, ∀ o, h₃.get? b = some o → h₆.get? b = some o := fun b hb o e => by
        obtain ⟨o', e1, e2⟩ := S₆.held b hb
        rw [e] at e2; cases e2; exact e1
      refine hK h1 _ h₆ tk₆ ⟨u, v, pv, rfl⟩ ?_ S₆.rehold
      exact V.frame _ _ _ st₃ fun b hbf o eb => by
        by_cases q : b ∈ wr
        · exact e b q o eb
        · obtain ⟨o', e'⟩ := hb b hbf q
          have e1 := S₃.sub b o' (le b o' e')
          rw [e1] at eb
          cases eb
          exact S₆.sub b _ (le b _ e')
    · subst h1
      exact V.done (mk s h tk) _ _ st fun h₂ tk₂ k => hX rfl h₂ tk₂ (S.gone k hL hC hW)

def EnumSt (e it l : Addr) (vs : List Value) : Nat → Heap → Prop := fun i h => (∃ old, IsEnum h e it i old) ∧ h.IsListIter it l i ∧ h.IsList l vs.toArray

/-- enumerate over a list of the base -/
theorem enumL (a b : Str) {l : Addr} {vs : List Value} {c : Nat} {Q : Value → Shared → Prop} (hh : A.handled = none) (S : Fm W B₀ h₀ own env B m ps h) (hl : B l = some (lstO vs c))
    (hq : ∀ h' e it, (∀ pa pb kk tp, Itr prog w A (.Tuple [.Name a pa, .Name b pb] kk tp) B e [e, it] vs.length (fun i m m' => ∃ u v, (∃ t, vs[i]? = some v ∧ u = .int i t) ∧ m' = upd (upd m a u) b v)
        (fun env own => CanSt env own a ∧ CanSt env own b) (EnumSt e it l vs)) →
      NewW W env [e, it] → EnumSt e it l vs 0 h' → Fm W B₀ h₀ own env B m (ps ++ Hold h' [e, it]) h' → Q (.ref e) (mk s h' tk)) :
    wpAny (model prog w) A (call (.type "enumerate") [.ref l]) Q E (mk s h tk) := by
  have hL := lst_of S.sub hl
  have hlt : l < h.objs.size := by obtain ⟨o, e, _⟩ := hL; exact Heap.lt_size e
  refine call_enumerate_list (s := mk s h tk) hL fun h' he hit hsz k => ?_
  have k : ∀ b o, h.get? b = some o → h'.get? b = some o := k
  have he : IsEnum h' (h.objs.size + 1) h.objs.size 0 .none := he
  have hit : h'.IsListIter h.objs.size l 0 := hit
  have st : EnumSt (h.objs.size + 1) h.objs.size l vs 0 h' := ⟨⟨_, he⟩, hit, hL.at fun o e => k _ _ e⟩
  have n2 : h.get? (h.objs.size + 1) = none := by
    cases e : h.get? (h.objs.size + 1) with
    | none => rfl
    | some o => exact absurd (Heap.lt_size e) (Nat.not_lt.mpr (Nat.le_succ _))
  refine hq h' (h.objs.size + 1) h.objs.size ?_ (S.newW fun a ha => ?_) st ?_
  · intro pa pb kk tp
    have V := WalksT.enumerate (prog := prog) (w := w) (A := A) hh (h.objs.size + 1) h.objs.size l (Nat.succ_ne_self _) (Nat.ne_of_lt (Nat.lt_succ_of_lt hlt)) (Nat.ne_of_lt hlt) vs.toArray
    have I0 := itrWalksT (a := a) (b := b) (pa := pa) (pb := pb) (tp := tp) (kk := kk) (B := B) (Pv := fun i u v => ∃ t, vs[i]? = some v ∧ u = .int i t) hh V (fun i vals hp => by
        obtain ⟨t, x, h1, h2⟩ := hp
        exact ⟨_, _, h2, t, by simpa using h1, rfl⟩)
      (fun i h st b hb => by
        obtain ⟨⟨old, he⟩, ⟨o, e, _⟩, _⟩ := st
        rcases List.mem_cons.mp hb with q | q
        · rw [q]; exact ⟨_, he⟩
        · rw [List.mem_singleton.mp q]; exact ⟨o, e⟩)
      (fun i T h st b hb => by
        obtain ⟨⟨old, he⟩, ⟨o, e, _⟩, _⟩ := st
        rcases List.mem_cons.mp hb with q | q
        · rw [q]; exact ⟨_, he⟩
        · rw [List.mem_singleton.mp q]; exact ⟨o, e⟩)
      (fun b hb hw => by
        rcases List.mem_cons.mp hb with q | q
        · exact absurd (q ▸ List.mem_cons_self ..) hw
        · rcases List.mem_cons.mp q with q | q
          · exact absurd (q ▸ List.mem_cons_of_mem _ (List.mem_cons_self ..)) hw
          · rw [List.mem_singleton.mp q]; exact ⟨_, hl⟩)
    rw [List.size_toArray] at I0
    exact I0
  · rcases List.mem_cons.mp ha with q | q
    · rw [q]; exact n2
    · rw [List.mem_singleton.mp q]; exact newAt
  · obtain ⟨o2, e2, _⟩ := id hit
    have n1 : h.get? h.objs.size = none := newAt
    -- two new things
    have e1 := he
    have S1 : Fm W B₀ h₀ own env B m ((h.objs.size, fun o => h'.get? h.objs.size = some o) :: ps) h' := S.push n1 k e2 e2
    have S2 : Fm W B₀ h₀ own env B m ((h.objs.size + 1, fun o => h'.get? (h.objs.size + 1) = some o) :: (h.objs.size, fun o => h'.get? h.objs.size = some o) :: ps) h' := by
      have hne : ∀ b ∈ own ++ ((h.objs.size, fun o => h'.get? h.objs.size = some o) :: ps).map (·.1), b ≠ h.objs.size + 1 := fun b hb q => by
        rw [List.map_cons] at hb
        rcases List.mem_cons.mp (List.perm_middle.mem_iff.mp hb) with z | z
        · rw [q] at z; exact Nat.succ_ne_self _ z
        · obtain ⟨o, eo⟩ := S.lt z
          rw [q, n2] at eo; cases eo
      have hB : B (h.objs.size + 1) = none := by
        cases q : B (h.objs.size + 1) with
        | none => rfl
        | some o => have := S.sub _ o q; rw [n2] at this; cases this
      have hh : h₀.get? (h.objs.size + 1) = none := by
        cases q : h₀.get? (h.objs.size + 1) with
        | none => rfl
        | some o => obtain ⟨o', e'⟩ := S.live _ o q; rw [n2] at e'; cases e'
      exact { S1 with
        ents := fun p hp => by
          rcases List.mem_cons.mp hp with z | z
          · rw [z]; exact ⟨_, e1, e1⟩
          · exact S1.ents p z
        nodup := by
          rw [List.map_cons]
          exact (List.Perm.nodup_iff List.perm_middle).mpr (List.nodup_cons.mpr ⟨fun q => hne _ q rfl, S1.nodup⟩)
        apart := fun b hb => by
          rw [List.map_cons] at hb
          rcases List.mem_cons.mp (List.perm_middle.mem_iff.mp hb) with z | z
          · rw [z]; exact hB
          · exact S1.apart b z
        fresh := fun b hb hW => by
          rw [List.map_cons] at hb
          rcases List.mem_cons.mp (List.perm_middle.mem_iff.mp hb) with z | z
          · rw [z]; exact hh
          · exact S1.fresh b z hW }
    exact S2.perm (List.perm_append_comm (l₁ := [_, _]) (l₂ := ps))

def rngO (a b : Int) (t u v : Tok) : Obj := { cls := .type "range", data := .fields #[.int a t, .int b u, .int 1 v] }
theorem mkRange1 {n : Int} {t : Tok} {Q : Value → Shared → Prop} (S : Fm W B₀ h₀ own env B m ps h)
    (hq : ∀ B' h' r t u v tk', B.le B' → B' r = some (rngO 0 n t u v) → Fm W B₀ h₀ own env B' m ps h' → Q (.ref r) (mk s h' tk')) :
    wpAny (model prog w) A (call (.type "range") [.int n t]) Q E (mk s h tk) := by
  refine call_range_1 (s := mk s h tk) ?_
  have k : ∀ b o, h.get? b = some o → (h.push (rngO 0 n tk t (tk + 1))).get? b = some o := fun b o e => Heap.get?_push_of_some _ e
  obtain ⟨B', X, e⟩ := Ext.alloc (a := h.objs.size) (o := rngO 0 n tk t (tk + 1)) S.sub newAt k (Heap.get?_push_size _ rfl)
  exact hq B' _ _ _ _ _ _ X.le e (S.ext X)
theorem mkRange2 {a n : Int} {t u : Tok} {Q : Value → Shared → Prop} (S : Fm W B₀ h₀ own env B m ps h)
    (hq : ∀ B' h' r t u v tk', B.le B' → B' r = some (rngO a n t u v) → Fm W B₀ h₀ own env B' m ps h' → Q (.ref r) (mk s h' tk')) :
    wpAny (model prog w) A (call (.type "range") [.int a t, .int n u]) Q E (mk s h tk) := by
  refine call_range_2 (s := mk s h tk) ?_
  have k : ∀ b o, h.get? b = some o → (h.push (rngO a n t u tk)).get? b = some o := fun b o e => Heap.get?_push_of_some _ e
  obtain ⟨B', X, e⟩ := Ext.alloc (a := h.objs.size) (o := rngO a n t u tk) S.sub newAt k (Heap.get?_push_size _ rfl)
  exact hq B' _ _ _ _ _ _ X.le e (S.ext X)

def RangeSt (I : Addr) (a b : Int) : Nat → Heap → Prop := fun i h => IsRangeIter h I (a + (i : Nat)) (((b - a).toNat : Int) - (i : Nat)) 1
/-- the ints of a range, each in a name -/
theorem iterR (x : Str) {r : Addr} {a b : Int} {t u c : Tok} {Q : Value → Shared → Prop} (hh : A.handled = none) (S : Fm W B₀ h₀ own env B m ps h) (hl : B r = some (rngO a b t u c))
    (ha : -(2 ^ 62) ≤ a) (ha' : a < 2 ^ 62) (hb : -(2 ^ 62) ≤ b) (hb' : b < 2 ^ 62)
    (hq : ∀ h' I, (∀ pos, Itr prog w A (.Name x pos) B I [I] (b - a).toNat (fun i m m' => ∃ v, (∃ t, v = .int (a + i) t) ∧ m' = upd m x v) (fun env own => CanSt env own x) (RangeSt I a b)) →
      NewW W env [I] → RangeSt I a b 0 h' → Fm W B₀ h₀ own env B m (ps ++ Hold h' [I]) h' → Q (.ref I) (mk s h' tk)) :
    wpAny (model prog w) A (pyIter (.ref r)) Q E (mk s h tk) := by
  refine wpAny_pyIter_range (s := mk s h tk) (S.sub _ _ hl) (small_one ha ha' hb hb') ?_
  have hsz : Builtin.Range.rangeSize a b 1 = ((b - a).toNat : Int) := by rw [rangeSize_one]; split <;> omega
  rw [hsz]
  have k : ∀ c o, h.get? c = some o → (h.push { cls := .type "range_iterator", data := .fields #[rawInt a, rawInt ((b - a).toNat : Int), rawInt 1] }).get? c = some o := fun b o e => Heap.get?_push_of_some _ e
  have e : (h.push { cls := .type "range_iterator", data := .fields #[rawInt a, rawInt ((b - a).toNat : Int), rawInt 1] }).get? h.objs.size = some { cls := .type "range_iterator", data := .fields #[rawInt a, rawInt ((b - a).toNat : Int), rawInt 1] } := Heap.get?_push_size _ rfl
  refine hq _ h.objs.size ?_ (S.newW fun a ha => by rw [List.mem_singleton.mp ha]; exact newAt) ?_ ?_
  · intro pos
    have V := Walks.range (prog := prog) (w := w) (A := A) hh h.objs.size a 1 (b - a).toNat
    have I0 := itrWalks (x := x) (pos := pos) (B := B) V (fun i h st b hb => by
      rw [List.mem_singleton.mp hb]; exact ⟨_, st⟩) (fun b hb hw => absurd hb hw)
    simp only [Int.mul_one] at I0
    exact I0
  · show IsRangeIter _ _ (a + ((0 : Nat) : Int)) (((b - a).toNat : Int) - ((0 : Nat) : Int)) 1
    rw [show a + ((0 : Nat) : Int) = a by omega, show ((b - a).toNat : Int) - ((0 : Nat) : Int) = ((b - a).toNat : Int) by omega]
    exact e
  · exact (S.push newAt k e (P := fun o => (h.push { cls := .type "range_iterator", data := .fields #[rawInt a, rawInt ((b - a).toNat : Int), rawInt 1] }).get? h.objs.size = some o) e).perm (List.perm_append_comm (l₁ := [_]) (l₂ := ps))

/-- a for loop by what holds between its turns -/
theorem forLoop {tgt : Expr} {body : List Stmt} {I : Addr} {wr : List Addr} {n : Nat} {P : Nat → (Str → Option Value) → (Str → Option Value) → Prop} {ok : Env → List Addr → Prop} {St : Nat → Heap → Prop} {R : Result → Shared → Prop} {hd : Heap}
    (Inv : Nat → Base → (Str → Option Value) → List Ent → Prop) (IT : Itr prog w A tgt B I wr n P ok St) (hok : ok env own) (hN : NewW W env wr) (hL : env.locals ∈ own)
    (S : Fm W B₀ h₀ own env B m (ps ++ Hold hd wr) h) (st : St 0 h) (inv : Inv 0 B m ps)
    (turn : ∀ i B₁ m₁ m₂ ps₁ h₁ tk₁ (E' : Value → Shared → Prop), i < n → B.le B₁ → Inv i B₁ m₁ ps₁ → P i m₁ m₂ → Fm W B₀ h₀ own env B₁ m₂ (ps₁ ++ Hold h₁ wr) h₁ →
      wpAny (model prog w) A (execs body env) (fun f s₃ => match f with
        | .next | .cont => ∃ B₂ m₃ ps₂ h₂ tk₂, s₃ = mk s h₂ tk₂ ∧ B₁.le B₂ ∧ Inv (i + 1) B₂ m₃ ps₂ ∧ Fm W B₀ h₀ own env B₂ m₃ (ps₂ ++ Hold h₁ wr) h₂
        | .brk => False
        | .ret v => R (.ok (.ret v)) s₃) E' (mk s h₁ tk₁))
    (done : ∀ B₁ m₁ ps₁ h₁ tk₁, B.le B₁ → Inv n B₁ m₁ ps₁ → Fm W B₀ h₀ own env B₁ m₁ ps₁ h₁ → R (.ok .next) (mk s h₁ tk₁)) :
    codeAny (model prog w) A (.forLoop tgt (.ref I) body [] env) R (mk s h tk) := by
  refine codeAny_forLoop_any (fun k s' => ∃ i B₁ m₁ ps₁ hd₁ h₁ tk₁, s' = mk s h₁ tk₁ ∧ i ≤ n ∧ k = n - i ∧ B.le B₁ ∧ Inv i B₁ m₁ ps₁ ∧ St i h₁ ∧ Fm W B₀ h₀ own env B₁ m₁ (ps₁ ++ Hold hd₁ wr) h₁) ?_ n
    ⟨0, B, m, ps, hd, h, tk, rfl, Nat.zero_le _, rfl, .rfl, inv, st, S⟩
  rintro k s' ⟨i, B₁, m₁, ps₁, hd₁, h₁, tk₁, rfl, hi, rfl, le, inv, st, S⟩
  refine wpAny_mono (IT.turn W B₀ h₀ own env B₁ m₁ ps₁ s h₁ hd₁ tk₁ i (fun s₁ => wpAny (model prog w) A (execs [] env) (fun f s₃ => R (.ok f) s₃) (notedBy (model prog w) A env fun e s' => R (.error e) s') s₁)
    (fun s₂ => wpAny (model prog w) A (execs body env) (fun f s₃ => match f with
          | .next | .cont => ∃ k', k' < n - i ∧ ∃ i B₁ m₁ ps₁ hd₁ h₁ tk₁, s₃ = mk s h₁ tk₁ ∧ i ≤ n ∧ k' = n - i ∧ B.le B₁ ∧ Inv i B₁ m₁ ps₁ ∧ St i h₁ ∧ Fm W B₀ h₀ own env B₁ m₁ (ps₁ ++ Hold hd₁ wr) h₁
          | .brk => R (.ok .next) s₃
          | .ret v => R (.ok (.ret v)) s₃) (notedBy (model prog w) A env fun e s' => R (.error e) s') s₂)
    (notedBy (model prog w) A env fun e s' => R (.error e) s') le hi st S hL hN.2 hN.1 hok (fun hlt m₂ h₂ tk₂ p st₂ S₂ => ?_) fun he h₂ tk₂ S₂ => ?_) (fun r s₁ q => q) fun _ _ q => q
  · refine wpAny_mono (turn i B₁ m₁ m₂ ps₁ h₂ tk₂ _ hlt le inv p S₂) (fun f s₃ q => ?_) fun _ _ q => q
    have step : (∃ B₂ m₃ ps₂ h₃ tk₃, s₃ = mk s h₃ tk₃ ∧ B₁.le B₂ ∧ Inv (i + 1) B₂ m₃ ps₂ ∧ Fm W B₀ h₀ own env B₂ m₃ (ps₂ ++ Hold h₂ wr) h₃) →
        ∃ k', k' < n - i ∧ ∃ i B₁ m₁ ps₁ hd₁ h₁ tk₁, s₃ = mk s h₁ tk₁ ∧ i ≤ n ∧ k' = n - i ∧ B.le B₁ ∧ Inv i B₁ m₁ ps₁ ∧ St i h₁ ∧ Fm W B₀ h₀ own env B₁ m₁ (ps₁ ++ Hold hd₁ wr) h₁ := fun q => by
      obtain ⟨B₂, m₃, ps₂, h₃, tk₃, e, le₂, inv₂, S₃⟩ := q
      refine ⟨n - (i + 1), by omega, i + 1, B₂, m₃, ps₂, h₂, h₃, tk₃, e, hlt, rfl, le.trans le₂, inv₂, ?_, S₃⟩
      refine IT.stay _ _ _ st₂ (S₂.sub.of_le le) (S₃.sub.of_le (le.trans le₂)) fun b hb o eb => ?_
      obtain ⟨o', e1, e2⟩ := S₃.held b hb
      rw [eb] at e2; cases e2; exact e1
    cases f with
    | next => exact step q
    | cont => exact step q
    | brk => exact q.elim
    | ret v => exact q
  · refine wpAny_execs_nil ?_
    subst he
    exact done B₁ m₁ ps₁ h₂ tk₂ le inv S₂
end
/-! comprehensions -/
section
variable {prog : Program} {w : World} {A : Around} {E : Value → Shared → Prop} {s : Shared} {tk : Nat}

theorem comp_loop {elt target iter : Expr} {ifs : List Expr} {scope : Scope} {pos : Pos} {it acc : Value} {env : Env} {R : Result → Shared → Prop} (I : Nat → Shared → Prop)
    (turn : ∀ n s, I n s → wpAny (model prog w) A (pyNext it) (fun r s₁ => match r with
      | none => R (.ok .next) s₁
      | some v => wpAny (model prog w) A (letOwnedTupleGo target it v) (fun _ s₀ => wpAny (model prog w) A (assign target env v) (fun _ s₂ =>
          wpAny (model prog w) A (forIn ifs true fun c r => if r = true then do let ok ← isTrue c env (eval c env); pure (ForInStep.yield ok) else pure (ForInStep.yield r)) (fun ok s₃ =>
          if ok = true then wpAny (model prog w) A (eval elt env) (fun x s₄ =>
            wpAny (model prog w) A (call (.builtin "list.append") [acc, x]) (fun _ s₅ => ∃ m, m < n ∧ I m s₅) (notedBy (model prog w) A env fun e s' => R (.error e) s') s₄) (notedBy (model prog w) A env fun e s' => R (.error e) s') s₃
          else ∃ m, m < n ∧ I m s₃) (notedBy (model prog w) A env fun e s' => R (.error e) s') s₂)
          (notedBy (model prog w) A env fun e s' => R (.error e) s') s₀) (notedBy (model prog w) A env fun e s' => R (.error e) s') s₁) (notedBy (model prog w) A env fun e s' => R (.error e) s') s)
    (n : Nat) (s : Shared) (h : I n s) : codeAny (model prog w) A (.compLoop (.ListComp elt [⟨target, iter, ifs, 0⟩] scope pos) 0 it acc env) R s := by
  refine codeAny_loop rfl I (fun n s hI => ?_) n h
  show wpAny _ A ((compTurn (.ListComp elt [⟨target, iter, ifs, 0⟩] scope pos) 0 it acc env).onRaise (fun x => do noteFrame x env; theTreesLotGoes x)) _ _ s
  refine wpAny_noted ?_
  rw [compTurn_list]
  refine wpAny_bind (wpAny_standAt (wpAny_bind (wpAny_mono (turn n s hI) (fun r s₁ h₁ => ?_) fun _ _ h' => h')))
  cases r with
  | none => exact wpAny_pure h₁
  | some v =>
    refine wpAny_bind (wpAny_mono h₁ (fun _ s₀ h₀' => ?_) fun _ _ h' => h')
    refine wpAny_bind (wpAny_mono h₀' (fun _ s₂ h₂ => wpAny_bind (wpAny_mono h₂ (fun ok s₃ h₃ => ?_) fun _ _ h' => h')) fun _ _ h' => h')
    cases ok with
    | false => exact wpAny_pure ⟨rfl, h₃⟩
    | true =>
      exact wpAny_bind (wpAny_bind (wpAny_mono h₃ (fun x s₄ h₄ => wpAny_bind (wpAny_mono h₄ (fun _ s₅ h₅ => wpAny_pure (wpAny_pure ⟨rfl, h₅⟩)) fun _ _ h' => h')) fun _ _ h' => h'))

theorem newEnv_comp {M : Model} {scope : Scope} {globals : Addr} {cl : List (Str × Addr)} {qual : Str} {env : Env} {Q : Env → Shared → Prop}
    (hQ : ∀ t, Q { scope, locals := s.heap.objs.size, globals, cells := cellsFrom (s.heap.objs.size + 1) scope.names cl, qual, func := none, code := env.code, frame := env.frame, builtins := env.builtins }
      { s with heap := pushCells (s.heap.push { cls := .type "dict", data := .dict #[] }) scope.names, toks := t }) :
    wpAny M A (newFunctionEnv scope globals cl [] qual none .none (some env)) Q E s := by
  simp only [newFunctionEnv, Option.isSome_some, if_true]
  refine wpAny_bind (wpAny_alloc ?_)
  refine wpAny_bind (wpAny_layCells _ (fun name kind cells => by cases hkc : kind == NameKind.cell <;> simp) _ _ _ _ ?_)
  rw [show ({ s with heap := s.heap.push { cls := .type "dict", data := .dict #[] } } : Shared).heap.objs.size = s.heap.objs.size + 1 from Heap.size_push ..]
  exact wpAny_bind (wpAny_pure (wpAny_pure (hQ s.toks)))

theorem cellsFrom_append : ∀ (names : List (Str × NameKind)) (n : Nat) (acc : List (Str × Addr)), cellsFrom n names acc = cellsFrom n names [] ++ acc
  | [], _, _ => rfl
  | (x, k) :: r, n, acc => by
    unfold cellsFrom
    split
    · rw [cellsFrom_append r (n + 1) ((x, n) :: acc), cellsFrom_append r (n + 1) [(x, n)], List.append_assoc]; rfl
    · exact cellsFrom_append r n acc

/-- the frame of a comprehension -/
def cenvOf (scope : Scope) (env : Env) (cl : List (Str × Addr)) (C : Addr) : Env :=
  { scope := relabel scope env, locals := C, globals := env.globals, cells := cellsFrom (C + 1) scope.names cl, qual := env.qual, func := none, code := env.code, frame := env.frame, builtins := env.builtins }
/-- its own things -/
def cownOf (scope : Scope) (C : Addr) : List Addr := C :: (cellsFrom (C + 1) scope.names []).map (·.2)
/-- what it knows at its start -/
def mcOf (cl : List (Str × Addr)) (m : Str → Option Value) : Str → Option Value := fun x => match cl.lookup x with
  | some _ => m x
  | none => none

variable {W : List Addr} {B₀ B B' : Base} {h₀ h h' : Heap} {own : List Addr} {env : Env} {m : Str → Option Value} {x : Str} {pos : Pos} {v : Value}

theorem pushCells_size (names : List (Str × NameKind)) : ∀ (h : Heap), h.objs.size ≤ (pushCells h names).objs.size := by
  induction names with
  | nil => intro h; exact Nat.le_refl _
  | cons p r ih =>
    intro h
    obtain ⟨x, k⟩ := p
    unfold pushCells
    split
    · exact Nat.le_trans (by rw [Heap.size_push]; exact Nat.le_succ _) (ih _)
    · exact ih h

theorem none_ge {h : Heap} {a : Addr} (ha : h.objs.size ≤ a) : h.get? a = none := by
  cases e : h.get? a with
  | none => rfl
  | some o => exact absurd (Heap.lt_size e) (Nat.not_lt.mpr ha)

/-- a comprehension's start -/
theorem comp_frame {scope : Scope} {cl : List (Str × Addr)} {psW psR : List Ent} {hd : Heap} {wr : List Addr}
    (S : Fm W B₀ h₀ own env B m ((psW ++ psR) ++ Hold hd wr) h)
    (hcl : ∀ p ∈ cl, env.kindOf p.1 = some .cell ∧ env.cells.lookup p.1 = some p.2 ∧ (relabel scope env).names.lookup p.1 = some .cell) (cn : List Str) (hcn : ∀ n, (cellsFrom n scope.names cl).map (·.1) = cn) (hnd : cn.Nodup) :
    Fm (psW.map (·.1)) B (hideAll h wr) (cownOf scope (h.objs.size + 1)) (cenvOf scope env cl (h.objs.size + 1)) B (mcOf cl m) ((psW ++ [(h.objs.size, LstP [])]) ++ Hold h wr)
      (pushCells ((h.push (lstO [] 0)).push { cls := .type "dict", data := .dict #[] }) scope.names) := by
  have e1 : (h.push (lstO [] 0)).objs.size = h.objs.size + 1 := Heap.size_push ..
  have e2 : ((h.push (lstO [] 0)).push { cls := .type "dict", data := .dict #[] }).objs.size = h.objs.size + 1 + 1 := by rw [Heap.size_push, e1]
  have k : ∀ b o, h.get? b = some o → (pushCells ((h.push (lstO [] 0)).push { cls := .type "dict", data := .dict #[] }) scope.names).get? b = some o := fun b o e =>
    pushCells_keeps _ _ b o (Heap.get?_push_of_some _ (Heap.get?_push_of_some _ e))
  have hD : (pushCells ((h.push (lstO [] 0)).push { cls := .type "dict", data := .dict #[] }) scope.names).get? h.objs.size = some (lstO [] 0) :=
    pushCells_keeps _ _ _ _ (Heap.get?_push_of_some _ (Heap.get?_push_size _ rfl))
  have hC : (pushCells ((h.push (lstO [] 0)).push { cls := .type "dict", data := .dict #[] }) scope.names).Ns (h.objs.size + 1) fun _ => none := by
    have := (Heap.Ns.new (h.push (lstO [] 0)) (.type "dict")).keeps (pushCells_keeps scope.names _)
    rw [e1] at this
    exact this
  have ok := cellsFrom_ok scope.names ((h.push (lstO [] 0)).push { cls := .type "dict", data := .dict #[] }) (h.objs.size + 1 + 1) [] ⟨fun _ _ hm => (nomatch hm), List.Pairwise.nil⟩ (by rw [e2]; exact Nat.le_refl _)
  rw [e2] at ok
  have nc : ∀ x c, (x, c) ∈ cellsFrom (h.objs.size + 1 + 1) scope.names [] → h.objs.size + 1 < c := fun x c hm => (ok.empty x c hm).2
  have own_ge : ∀ a ∈ cownOf scope (h.objs.size + 1), h.objs.size + 1 ≤ a := fun a ha => by
    rcases List.mem_cons.mp ha with q | q
    · exact Nat.le_of_eq q.symm
    · obtain ⟨⟨n, c⟩, hc, rfl⟩ := List.mem_map.mp q
      exact Nat.le_of_lt (nc n c hc)
  have old : ∀ a ∈ (psW ++ psR).map (·.1) ++ wr, ∃ o, h.get? a = some o := fun a ha => S.lt (by
    rw [List.map_append, Hold.fst]
    exact List.mem_append_right _ ha)
  have nd := S.nodup
  rw [List.map_append, Hold.fst, List.map_append] at nd
  have nd2 := (List.nodup_append.mp nd).2.1
  have inW : ∀ a ∈ psW.map (·.1), a ∈ (psW ++ psR).map (·.1) ++ wr := fun a ha => List.mem_append_left _ (by rw [List.map_append]; exact List.mem_append_left _ ha)
  have inr : ∀ a ∈ wr, a ∈ (psW ++ psR).map (·.1) ++ wr := fun a ha => List.mem_append_right _ ha
  have Wwr : ∀ a ∈ psW.map (·.1), a ∉ wr := fun a ha q => (List.nodup_append.mp nd2).2.2 a (List.mem_append_left _ ha) a q rfl
  have clIn : ∀ x c, (x, c) ∈ cl → ∃ v₀, h.IsCell c v₀ ∧ ∀ v, m x = some v → v₀ = some v := fun x c hm => S.lo.cell x c (hcl _ hm).1 (hcl _ hm).2.1
  have cells_eq : (cenvOf scope env cl (h.objs.size + 1)).cells = cellsFrom (h.objs.size + 1 + 1) scope.names [] ++ cl := cellsFrom_append ..
  have nodupN : ((cellsFrom (h.objs.size + 1 + 1) scope.names [] ++ cl).map (·.1)).Nodup := by rw [← cellsFrom_append, hcn]; exact hnd
  have pe : ((psW ++ [(h.objs.size, LstP [])]) ++ Hold h wr).map (·.1) = psW.map (·.1) ++ [h.objs.size] ++ wr := by rw [List.map_append, Hold.fst, List.map_append]; rfl
  exact {
    mono := .rfl
    sub := fun b o e => k b o (S.sub b o e)
    keep := fun b o _ e => k b o (of_hideAll _ e)
    off := fun _ _ _ n => n
    live := fun b o e => ⟨o, k b o (of_hideAll _ e)⟩
    lo := by
      refine ⟨⟨_, hC, fun x v hx hv => ?_⟩, fun x c hx hc => ?_, ?_, fun x c hm => ?_, fun x c hm => ?_⟩
      · exfalso
        unfold mcOf at hv
        split at hv
        · rename_i c hl
          have := (hcl _ (mem_of_lookup hl)).2.2
          have hx : (relabel scope env).names.lookup x = some .local := hx
          rw [this] at hx; cases hx
        · cases hv
      · rw [cells_eq] at hc
        have hm := mem_of_lookup hc
        rcases List.mem_append.mp hm with q | q
        · refine ⟨none, (ok.empty x c q).1, fun v hv => ?_⟩
          exfalso
          unfold mcOf at hv
          split at hv
          · rename_i c' hl
            rw [List.map_append, List.nodup_append] at nodupN
            exact nodupN.2.2 x (List.mem_map_of_mem (f := fun p : Str × Addr => p.1) q) x (List.mem_map_of_mem (f := fun p : Str × Addr => p.1) (mem_of_lookup hl)) rfl
          · cases hv
        · obtain ⟨v₀, a, b⟩ := clIn x c q
          refine ⟨v₀, a.keeps k, fun v hv => b v ?_⟩
          unfold mcOf at hv
          split at hv
          · exact hv
          · cases hv
      · rw [cells_eq, List.pairwise_append]
        refine ⟨ok.apart, ?_, fun p hp q hq e => ?_⟩
        · have h1 : (cl.map (·.1)).Nodup := by rw [List.map_append, List.nodup_append] at nodupN; exact nodupN.2.1
          have : ∀ l : List (Str × Addr), (∀ p ∈ l, p ∈ cl) → (l.map (·.1)).Nodup → l.Pairwise fun x y => x.2 ≠ y.2 := fun l => by
            induction l with
            | nil => intro _ _; exact .nil
            | cons p r ih =>
              intro hs hn
              rw [List.map_cons, List.nodup_cons] at hn
              refine List.pairwise_cons.mpr ⟨fun q hq e => hn.1 ?_, ih (fun p hp => hs p (List.mem_cons_of_mem _ hp)) hn.2⟩
              have hp := (hcl p (hs p (List.mem_cons_self ..))).2.1
              have hq' := (hcl q (hs q (List.mem_cons_of_mem _ hq))).2.1
              have := name_of_addr S.lo.apart (mem_of_lookup hp) (e ▸ mem_of_lookup hq')
              rw [this]; exact List.mem_map_of_mem hq
          exact this cl (fun _ h => h) h1
        · obtain ⟨v₀, ⟨o, a, _⟩, _⟩ := clIn q.1 q.2 hq
          have h1 := nc p.1 p.2 hp
          have h2 := Heap.lt_size a
          have e' : p.2 = q.2 := e
          rw [e'] at h1
          exact absurd h2 (Nat.not_lt.mpr (Nat.le_of_lt (Nat.lt_of_succ_lt h1)))
      · rw [cells_eq] at hm
        show c ≠ h.objs.size + 1
        rcases List.mem_append.mp hm with q | q
        · exact Nat.ne_of_gt (nc x c q)
        · obtain ⟨v₀, ⟨o, a, _⟩, _⟩ := clIn x c q
          exact Nat.ne_of_lt (Nat.lt_succ_of_lt (Heap.lt_size a))
      · rw [cells_eq] at hm
        rcases List.mem_append.mp hm with q | q
        · obtain ⟨o, a, _⟩ := (ok.empty x c q).1; exact ⟨o, a⟩
        · obtain ⟨v₀, ⟨o, a, _⟩, _⟩ := clIn x c q; exact ⟨o, k _ _ a⟩
    ents := fun p hp => by
      rcases List.mem_append.mp hp with q | q
      · rcases List.mem_append.mp q with q | q
        · obtain ⟨o, e, po⟩ := S.ents p (List.mem_append_left _ (List.mem_append_left _ q)); exact ⟨o, k _ _ e, po⟩
        · rw [List.mem_singleton.mp q]; exact ⟨_, hD, 0, rfl⟩
      · obtain ⟨a, ha, rfl⟩ := List.mem_map.mp q
        obtain ⟨o, e⟩ := old a (inr a ha)
        exact ⟨o, k _ _ e, e⟩
    nodup := by
      rw [pe]
      refine List.nodup_append.mpr ⟨?_, ?_, fun a ha b hb q => ?_⟩
      · refine List.nodup_cons.mpr ⟨fun q => ?_, cells_pairwise_nodup ok.apart⟩
        obtain ⟨⟨n, c⟩, hc, e⟩ := List.mem_map.mp q
        exact Nat.ne_of_gt (nc n c hc) e
      · rw [List.append_assoc]
        refine (List.Perm.nodup_iff (List.perm_middle (l₁ := psW.map (·.1)) (a := h.objs.size) (l₂ := wr))).mpr (List.nodup_cons.mpr ⟨fun q => ?_, ?_⟩)
        · have : ∃ o, h.get? h.objs.size = some o := by
            rcases List.mem_append.mp q with z | z
            · exact old _ (inW _ z)
            · exact old _ (inr _ z)
          obtain ⟨o, e⟩ := this
          exact absurd (Heap.lt_size e) (Nat.lt_irrefl _)
        · refine List.Nodup.sublist ?_ nd2
          exact (List.sublist_append_left _ _).append (List.Sublist.refl _)
      · have h1 := own_ge a ha
        rcases List.mem_append.mp hb with z | z
        · rcases List.mem_append.mp z with z | z
          · obtain ⟨o, e⟩ := old b (inW b z)
            have := Heap.lt_size e
            rw [← q] at this
            exact absurd this (Nat.not_lt.mpr (Nat.le_of_lt h1))
          · rw [List.mem_singleton.mp z] at q
            rw [q] at h1
            exact absurd h1 (Nat.not_le.mpr (Nat.lt_succ_self _))
        · obtain ⟨o, e⟩ := old b (inr b z)
          have := Heap.lt_size e
          rw [← q] at this
          exact absurd this (Nat.not_lt.mpr (Nat.le_of_lt h1))
    apart := fun a ha => by
      have nB : ∀ a, h.get? a = none → B a = none := fun a n => by
        cases e : B a with
        | none => rfl
        | some o => rw [S.sub a o e] at n; cases n
      rw [pe] at ha
      rcases List.mem_append.mp ha with z | z
      · exact nB a (none_ge (Nat.le_of_lt (own_ge a z)))
      · rcases List.mem_append.mp z with z | z
        · rcases List.mem_append.mp z with z | z
          · exact S.apart a (List.mem_append_right _ (by rw [List.map_append]; exact List.mem_append_left _ (by rw [List.map_append]; exact List.mem_append_left _ z)))
          · rw [List.mem_singleton.mp z]; exact nB _ newAt
        · exact S.apart a (List.mem_append_right _ (by rw [List.map_append, Hold.fst]; exact List.mem_append_right _ z))
    fresh := fun a ha hW => by
      have nH : ∀ a, h.get? a = none → (hideAll h wr).get? a = none := fun a n => by
        cases e : (hideAll h wr).get? a with
        | none => rfl
        | some o => rw [of_hideAll _ e] at n; cases n
      rw [pe] at ha
      rcases List.mem_append.mp ha with z | z
      · exact nH a (none_ge (Nat.le_of_lt (own_ge a z)))
      · rcases List.mem_append.mp z with z | z
        · rcases List.mem_append.mp z with z | z
          · exact absurd z hW
          · rw [List.mem_singleton.mp z]; exact nH _ newAt
        · exact hideAll_none _ z
    there := fun a ha => by
      rcases List.mem_cons.mp ha with q | q
      · obtain ⟨o, _, _, ho, _⟩ := hC; exact ⟨o, q ▸ ho⟩
      · obtain ⟨⟨n, c⟩, hc, rfl⟩ := List.mem_map.mp q
        obtain ⟨o, ho, _⟩ := (ok.empty n c hc).1; exact ⟨o, ho⟩
    wex := fun a ha => by
      obtain ⟨o, e⟩ := old a (inW a ha)
      exact ⟨o, hideAll_get _ e (Wwr a ha)⟩ }

/-- the outer frame without the iterator's things -/
theorem Fm.hide {ps : List Ent} {hd : Heap} {wr : List Addr} (S : Fm W B₀ h₀ own env B m (ps ++ Hold hd wr) h) (hL : env.locals ∈ own) (hC : ∀ x c, (x, c) ∈ env.cells → c ∉ wr) (hW : ∀ a ∈ wr, a ∉ W) :
    Fm W B₀ h₀ own env B m ps (hideAll h wr) := S.gone (fun _ _ hb e => hideAll_get wr e hb) hL hC hW

/-- what a block has made is taken over -/
theorem Fm.adopt {ps qs : List Ent} {hb : Heap} (S : Fm W B₀ h₀ own env B m ps h) (h0 : ∀ b o, h₀.get? b = some o → ∃ o', hb.get? b = some o')
    (hp : ∀ a ∈ own ++ ps.map (·.1), ∃ o, hb.get? a = some o) (he : Ents qs h) (hn : (qs.map (·.1)).Nodup) (hB : ∀ a ∈ qs.map (·.1), B a = none) (hf : ∀ a ∈ qs.map (·.1), hb.get? a = none) :
    Fm W B₀ h₀ own env B m (qs ++ ps) h :=
  { S with
    ents := fun p hp => by
      rcases List.mem_append.mp hp with q | q
      · exact he p q
      · exact S.ents p q
    nodup := by
      rw [List.map_append]
      refine (List.Perm.nodup_iff (show (own ++ (qs.map (·.1) ++ ps.map (·.1))).Perm (qs.map (·.1) ++ (own ++ ps.map (·.1))) by
        rw [← List.append_assoc, ← List.append_assoc]; exact List.Perm.append_right _ List.perm_append_comm)).mpr (List.nodup_append.mpr ⟨hn, S.nodup, fun a ha b hb' q => ?_⟩)
      obtain ⟨o, e⟩ := hp b hb'
      rw [← q, hf a ha] at e; cases e
    apart := fun a ha => by
      rw [List.map_append] at ha
      rcases List.mem_append.mp ha with q | q
      · exact S.apart a (List.mem_append_left _ q)
      · rcases List.mem_append.mp q with q | q
        · exact hB a q
        · exact S.apart a (List.mem_append_right _ q)
    fresh := fun a ha hW => by
      rw [List.map_append] at ha
      rcases List.mem_append.mp ha with q | q
      · exact S.fresh a (List.mem_append_left _ q) hW
      · rcases List.mem_append.mp q with q | q
        · cases e : h₀.get? a with
          | none => rfl
          | some o => obtain ⟨o', e'⟩ := h0 a o e; rw [hf a q] at e'; cases e'
        · exact S.fresh a (List.mem_append_right _ q) hW }

theorem ExtW.toExt {h h' : Heap} (X : ExtW [] B h B' h') : Ext B h B' h' := ⟨X.le, X.sub, fun b o e => X.keep b o (by simp) e, X.off⟩

abbrev testsOf (ifs : List Expr) (env : Env) : Sem Bool := forIn ifs true fun c r => if r = true then do let ok ← isTrue c env (eval c env); pure (ForInStep.yield ok) else pure (ForInStep.yield r)

/-- a namespace -/
def NsP : Obj → Prop := fun o => ∃ es ep, o.data = .dict es ep ∧ StrKeys es

/-- a comprehension by what holds between its turns; the objects psW are handed over to it -/
theorem comp_go {elt tgt iter : Expr} {ifs : List Expr} {scope : Scope} {cpos : Pos} {cl : List (Str × Addr)} {psW psR : List Ent} {hd : Heap} {wr : List Addr} {I : Addr} {n : Nat}
    {P : Nat → (Str → Option Value) → (Str → Option Value) → Prop} {ok : Env → List Addr → Prop} {St : Nat → Heap → Prop} {RR : Value → Addr → Result → Shared → Prop}
    (Inv : Nat → Base → List Ent → List Ent → List Value → Prop) (IT : Itr prog w A tgt B I wr n P ok St) (hN : NewW W env wr) (hL : env.locals ∈ own) (hCW : ∀ x c, (x, c) ∈ env.cells → c ∉ psW.map (·.1))
    (S : Fm W B₀ h₀ own env B m ((psW ++ psR) ++ Hold hd wr) h) (st : St 0 h) (inv : Inv 0 B [] psW []) (hn : n ≤ sizeLine)
    (cn : List Str) (hcl : ∀ p ∈ cl, env.kindOf p.1 = some .cell ∧ env.cells.lookup p.1 = some p.2 ∧ (relabel scope env).names.lookup p.1 = some .cell) (hcn : ∀ n, (cellsFrom n scope.names cl).map (·.1) = cn) (hnd : cn.Nodup)
    (hok : ∀ C, ok (cenvOf scope env cl C) (cownOf scope C))
    (turn : ∀ C D i B₁ m₂ psN psW₁ ys h₁ tk₁ (E' : Value → Shared → Prop), h.objs.size ≤ D → h.objs.size ≤ C → i < n → ys.length ≤ i → B.le B₁ → psW₁.map (·.1) = psW.map (·.1) → Inv i B₁ psN psW₁ ys → P i (mcOf cl m) m₂ →
      Fm (psW.map (·.1)) B (hideAll h wr) (cownOf scope C) (cenvOf scope env cl C) B₁ m₂ ((psN ++ psW₁ ++ [(D, LstP ys)]) ++ Hold h₁ wr) h₁ →
      wpAny (model prog w) A (testsOf ifs (cenvOf scope env cl C)) (fun okb s₃ =>
        if okb = true then wpAny (model prog w) A (eval elt (cenvOf scope env cl C)) (fun y s₄ => ∃ B₂ m₃ psN₂ psW₂ h₂ tk₂, s₄ = mk s h₂ tk₂ ∧ B₁.le B₂ ∧ psW₂.map (·.1) = psW.map (·.1) ∧ Inv (i + 1) B₂ psN₂ psW₂ (ys ++ [y]) ∧ (∀ x v, mcOf cl m x = some v → m₃ x = some v) ∧
          Fm (psW.map (·.1)) B (hideAll h wr) (cownOf scope C) (cenvOf scope env cl C) B₂ m₃ ((psN₂ ++ psW₂ ++ [(D, LstP ys)]) ++ Hold h₁ wr) h₂) E' s₃
        else ∃ B₂ m₃ psN₂ psW₂ h₂ tk₂, s₃ = mk s h₂ tk₂ ∧ B₁.le B₂ ∧ psW₂.map (·.1) = psW.map (·.1) ∧ Inv (i + 1) B₂ psN₂ psW₂ ys ∧ (∀ x v, mcOf cl m x = some v → m₃ x = some v) ∧
          Fm (psW.map (·.1)) B (hideAll h wr) (cownOf scope C) (cenvOf scope env cl C) B₂ m₃ ((psN₂ ++ psW₂ ++ [(D, LstP ys)]) ++ Hold h₁ wr) h₂) E' (mk s h₁ tk₁))
    (done : ∀ C D B₂ psN psW₂ ys h' tk', h.objs.size ≤ D → h.objs.size ≤ C → B.le B₂ → psW₂.map (·.1) = psW.map (·.1) → Inv n B₂ psN psW₂ ys → ys.length ≤ n → Fm W B₀ h₀ own env B₂ m ((C, NsP) :: ((psN ++ [(D, LstP ys)]) ++ (psW₂ ++ psR))) h' → RR (.ref D) C (.ok .next) (mk s h' tk')) :
    wpAny (model prog w) A (newList []) (fun acc s₃ => wpAny (model prog w) A (newFunctionEnv scope env.globals cl [] env.qual none .none (some env)) (fun cenv s₄ =>
      codeAny (model prog w) A (.compStart (.ListComp elt [⟨tgt, iter, ifs, 0⟩] scope cpos) 0 (.ref I) acc { cenv with scope := relabel scope env }) (RR acc cenv.locals) s₄) E s₃) E (mk s h tk) := by
  have F0 := comp_frame (scope := scope) S hcl cn hcn hnd
  refine wpAny_newObj_type (newEnv_comp fun t => ?_)
  have e1 : (mk s (h.push (lstO [] 0)) tk).heap.objs.size = h.objs.size + 1 := Heap.size_push ..
  show codeAny (model prog w) A (.compStart _ 0 (.ref I) (.ref h.objs.size) (cenvOf scope env cl (mk s (h.push (lstO [] 0)) tk).heap.objs.size)) (RR (.ref h.objs.size) (mk s (h.push (lstO [] 0)) tk).heap.objs.size)
    (mk s (pushCells ((h.push (lstO [] 0)).push { cls := .type "dict", data := .dict #[] }) scope.names) t)
  rw [e1]
  generalize hH : pushCells ((h.push (lstO [] 0)).push { cls := .type "dict", data := .dict #[] }) scope.names = h2 at F0 ⊢
  have k2 : ∀ b o, h.get? b = some o → h2.get? b = some o := fun b o e => by
    rw [← hH]; exact pushCells_keeps _ _ b o (Heap.get?_push_of_some _ (Heap.get?_push_of_some _ e))
  have st2 : St 0 h2 := IT.stay 0 _ _ st S.sub F0.sub fun b _ o e => k2 b o e
  have CL : h.objs.size + 1 ∈ cownOf scope (h.objs.size + 1) := List.mem_cons_self ..
  have nCw : ∀ x c, (x, c) ∈ (cenvOf scope env cl (h.objs.size + 1)).cells → c ∉ wr := fun x c hm q => by
    have hm : (x, c) ∈ cellsFrom (h.objs.size + 1 + 1) scope.names cl := hm
    rw [cellsFrom_append] at hm
    rcases List.mem_append.mp hm with z | z
    · have nd := F0.nodup
      rw [List.map_append, Hold.fst] at nd
      exact (List.nodup_append.mp nd).2.2 c (List.mem_cons_of_mem _ (List.mem_map_of_mem (f := fun p : Str × Addr => p.2) z)) c (List.mem_append_right _ q) rfl
    · exact hN.2 x c (mem_of_lookup (hcl _ z).2.1) q
  have nWR : ∀ a ∈ wr, a ∉ psW.map (·.1) := fun a ha q => by
    have nd := S.nodup
    rw [List.map_append, Hold.fst, List.map_append] at nd
    exact (List.nodup_append.mp (List.nodup_append.mp nd).2.1).2.2 a (List.mem_append_left _ q) a ha rfl
  -- the loop
  have loop : codeAny (model prog w) A (.compLoop (.ListComp elt [⟨tgt, iter, ifs, 0⟩] scope cpos) 0 (.ref I) (.ref h.objs.size) (cenvOf scope env cl (h.objs.size + 1)))
      (RR (.ref h.objs.size) (h.objs.size + 1)) (mk s h2 t) := by
    refine comp_loop (fun k s' => ∃ i B₁ psN psW₁ ys hd₁ h₁ tk₁, s' = mk s h₁ tk₁ ∧ i ≤ n ∧ k = n - i ∧ ys.length ≤ i ∧ B.le B₁ ∧ psW₁.map (·.1) = psW.map (·.1) ∧ Inv i B₁ psN psW₁ ys ∧ St i h₁ ∧
        Fm (psW.map (·.1)) B (hideAll h wr) (cownOf scope (h.objs.size + 1)) (cenvOf scope env cl (h.objs.size + 1)) B₁ (mcOf cl m) ((psN ++ psW₁ ++ [(h.objs.size, LstP ys)]) ++ Hold hd₁ wr) h₁) ?_ n _
      ⟨0, B, [], psW, [], h, h2, t, rfl, Nat.zero_le _, rfl, Nat.le_refl _, .rfl, rfl, inv, st2, F0⟩
    rintro k s' ⟨i, B₁, psN, psW₁, ys, hd₁, h₁, tk₁, rfl, hi, rfl, hys, le, hpw, inv, st, S₁⟩
    refine wpAny_mono (IT.turn _ _ _ _ _ B₁ _ _ s h₁ hd₁ tk₁ i (fun s₁ => RR (.ref h.objs.size) (h.objs.size + 1) (.ok .next) s₁)
      (fun s₂ => wpAny (model prog w) A (testsOf ifs (cenvOf scope env cl (h.objs.size + 1))) (fun ok s₃ =>
          if ok = true then wpAny (model prog w) A (eval elt (cenvOf scope env cl (h.objs.size + 1))) (fun x s₄ =>
            wpAny (model prog w) A (call (.builtin "list.append") [.ref h.objs.size, x]) (fun _ s₅ => ∃ k', k' < n - i ∧ ∃ i B₁ psN psW₁ ys hd₁ h₁ tk₁, s₅ = mk s h₁ tk₁ ∧ i ≤ n ∧ k' = n - i ∧ ys.length ≤ i ∧ B.le B₁ ∧ psW₁.map (·.1) = psW.map (·.1) ∧ Inv i B₁ psN psW₁ ys ∧ St i h₁ ∧
              Fm (psW.map (·.1)) B (hideAll h wr) (cownOf scope (h.objs.size + 1)) (cenvOf scope env cl (h.objs.size + 1)) B₁ (mcOf cl m) ((psN ++ psW₁ ++ [(h.objs.size, LstP ys)]) ++ Hold hd₁ wr) h₁)
              (notedBy (model prog w) A (cenvOf scope env cl (h.objs.size + 1)) fun e s' => RR (.ref h.objs.size) (h.objs.size + 1) (.error e) s') s₄)
            (notedBy (model prog w) A (cenvOf scope env cl (h.objs.size + 1)) fun e s' => RR (.ref h.objs.size) (h.objs.size + 1) (.error e) s') s₃
          else ∃ k', k' < n - i ∧ ∃ i B₁ psN psW₁ ys hd₁ h₁ tk₁, s₃ = mk s h₁ tk₁ ∧ i ≤ n ∧ k' = n - i ∧ ys.length ≤ i ∧ B.le B₁ ∧ psW₁.map (·.1) = psW.map (·.1) ∧ Inv i B₁ psN psW₁ ys ∧ St i h₁ ∧
              Fm (psW.map (·.1)) B (hideAll h wr) (cownOf scope (h.objs.size + 1)) (cenvOf scope env cl (h.objs.size + 1)) B₁ (mcOf cl m) ((psN ++ psW₁ ++ [(h.objs.size, LstP ys)]) ++ Hold hd₁ wr) h₁)
          (notedBy (model prog w) A (cenvOf scope env cl (h.objs.size + 1)) fun e s' => RR (.ref h.objs.size) (h.objs.size + 1) (.error e) s') s₂)
      (notedBy (model prog w) A (cenvOf scope env cl (h.objs.size + 1)) fun e s' => RR (.ref h.objs.size) (h.objs.size + 1) (.error e) s')
      le hi st S₁ CL nCw nWR (hok _) (fun hlt m₂ h₃ tk₃ p st₃ S₃ => ?_) fun he h₃ tk₃ S₃ => ?_) (fun r s₁ q => q) fun _ _ q => q
    · refine wpAny_mono (turn (h.objs.size + 1) h.objs.size i B₁ m₂ psN psW₁ ys h₃ tk₃ _ (Nat.le_refl _) (Nat.le_succ _) hlt hys le hpw inv p S₃) (fun okb s₄ q => ?_) fun _ _ q => q
      have stays : ∀ {B₂ m₃ psX h₅}, Fm (psW.map (·.1)) B (hideAll h wr) (cownOf scope (h.objs.size + 1)) (cenvOf scope env cl (h.objs.size + 1)) B₂ m₃ (psX ++ Hold h₃ wr) h₅ → B₁.le B₂ → St (i + 1) h₅ := fun {B₂ m₃ psX h₅} S₅ le₂ =>
        IT.stay _ _ _ st₃ (S₃.sub.of_le le) (S₅.sub.of_le (le.trans le₂)) fun b hb o eb => by
          obtain ⟨o', e1', e2'⟩ := S₅.held b hb
          rw [eb] at e2'; cases e2'; exact e1'
      cases okb with
      | false =>
        obtain ⟨B₂, m₃, psN₂, psW₂, h₅, tk₅, e, le₂, hpw₂, inv₂, hm, S₅⟩ := q
        exact ⟨n - (i + 1), by omega, i + 1, B₂, psN₂, psW₂, ys, h₃, h₅, tk₅, e, hlt, rfl, Nat.le_succ_of_le hys, le.trans le₂, hpw₂, inv₂, stays S₅ le₂, S₅.forget hm⟩
      | true =>
        refine wpAny_mono q (fun y s₅ q => ?_) fun _ _ q => q
        obtain ⟨B₂, m₃, psN₂, psW₂, h₅, tk₅, rfl, le₂, hpw₂, inv₂, hm, S₅⟩ := q
        have pl : h₅.PlainList h.objs.size ys.toArray := S₅.plain (List.mem_append_left _ (List.mem_append_right _ (List.mem_singleton.mpr rfl)))
        refine wpAny_list_append_plain (s := mk s h₅ tk₅) pl (fun h₆ pl₆ hs₆ => ?_) (by rw [List.size_toArray]; exact Nat.le_trans hys (Nat.le_trans hi hn))
        obtain ⟨c, e6⟩ := pl₆
        have e6 : h₆.get? h.objs.size = some (lstO (ys ++ [y]) c) := by rw [e6]; simp [lstO]
        have S₆ : Fm (psW.map (·.1)) B (hideAll h wr) (cownOf scope (h.objs.size + 1)) (cenvOf scope env cl (h.objs.size + 1)) B₂ m₃ ((psN₂ ++ psW₂) ++ (h.objs.size, LstP (ys ++ [y])) :: Hold h₃ wr) h₆ := by
          have S₅' : Fm (psW.map (·.1)) B (hideAll h wr) (cownOf scope (h.objs.size + 1)) (cenvOf scope env cl (h.objs.size + 1)) B₂ m₃ ((psN₂ ++ psW₂) ++ (h.objs.size, LstP ys) :: Hold h₃ wr) h₅ := by
            rw [List.append_assoc] at S₅; exact S₅
          refine S₅'.set hs₆.extBut e6 ⟨c, rfl⟩ CL fun x c hm q => ?_
          have hm : (x, c) ∈ cellsFrom (h.objs.size + 1 + 1) scope.names cl := hm
          rw [cellsFrom_append] at hm
          rcases List.mem_append.mp hm with z | z
          · have nd := S₅'.nodup
            refine (List.nodup_append.mp nd).2.2 c (List.mem_cons_of_mem _ (List.mem_map_of_mem (f := fun p : Str × Addr => p.2) z)) c ?_ rfl
            rw [q]; simp
          · obtain ⟨v₀, ⟨o, a, _⟩, _⟩ := S.lo.cell x c (hcl _ z).1 (hcl _ z).2.1
            rw [q] at a
            exact absurd (Heap.lt_size a) (Nat.lt_irrefl _)
        have S₇ : Fm (psW.map (·.1)) B (hideAll h wr) (cownOf scope (h.objs.size + 1)) (cenvOf scope env cl (h.objs.size + 1)) B₂ m₃ ((psN₂ ++ psW₂ ++ [(h.objs.size, LstP (ys ++ [y]))]) ++ Hold h₃ wr) h₆ := by
          rw [List.append_assoc]; exact S₆
        exact ⟨n - (i + 1), by omega, i + 1, B₂, psN₂, psW₂, ys ++ [y], h₃, h₆, tk₅, rfl, hlt, rfl, by simp; omega, le.trans le₂, hpw₂, inv₂, stays S₇ le₂, S₇.forget hm⟩
    · subst he
      -- back in the outer frame
      have X : ExtW (psW.map (·.1)) B (hideAll h wr) B₁ h₃ := ⟨le, S₃.sub, S₃.keep, S₃.off, S₃.live⟩
      have So := S.hide hL hN.2 hN.1
      have nd := So.nodup
      rw [List.map_append] at nd
      have nd₃ := S₃.nodup
      rw [List.map_append, List.map_append] at nd₃
      have S₄ : Fm W B₀ h₀ own env B₁ m (psW₁ ++ psR) h₃ := by
        refine So.extW X (fun q => ?_) hCW (fun a ha q => ?_) (fun a ha => ?_) (by rw [List.map_append, List.map_append, hpw]) fun p hp => ?_
        · exact (List.nodup_append.mp nd).2.2 _ hL _ (List.mem_append_left _ q) rfl
        · exact (List.nodup_append.mp nd).2.2 _ ha _ (List.mem_append_left _ q) rfl
        · rw [List.map_append]; exact List.mem_append_left _ ha
        · rcases List.mem_append.mp hp with q | q
          · exact S₃.ents p (List.mem_append_left _ (List.mem_append_right _ q))
          · obtain ⟨o, e, po⟩ := So.ents p (List.mem_append_right _ q)
            refine ⟨o, S₃.keep _ _ (fun z => ?_) e, po⟩
            exact (List.nodup_append.mp (List.nodup_append.mp nd).2.1).2.2 _ z _ (List.mem_map_of_mem q) rfl
      have inQ : ∀ p, p ∈ psN ++ [(h.objs.size, LstP ys)] → p ∈ psN ++ psW₁ ++ [(h.objs.size, LstP ys)] := fun p hp => by
        rcases List.mem_append.mp hp with q | q
        · exact List.mem_append_left _ (List.mem_append_left _ q)
        · exact List.mem_append_right _ q
      have inP : ∀ a, a ∈ (psN ++ [(h.objs.size, LstP ys)]).map (·.1) → a ∈ (psN ++ psW₁ ++ [(h.objs.size, LstP ys)]).map (·.1) := fun a ha => by
        obtain ⟨p, hp, rfl⟩ := List.mem_map.mp ha
        exact List.mem_map_of_mem (inQ p hp)
      have inQ' : ∀ a, a ∈ ((h.objs.size + 1, NsP) :: (psN ++ [(h.objs.size, LstP ys)])).map (·.1) → a ∈ cownOf scope (h.objs.size + 1) ++ (psN ++ psW₁ ++ [(h.objs.size, LstP ys)]).map (·.1) := fun a ha => by
        rw [List.map_cons] at ha
        rcases List.mem_cons.mp ha with q | q
        · rw [q]; exact List.mem_append_left _ CL
        · exact List.mem_append_right _ (inP a q)
      refine done (h.objs.size + 1) h.objs.size B₁ psN psW₁ ys h₃ tk₃ (Nat.le_refl _) (Nat.le_succ _) le hpw inv hys (S₄.adopt (qs := (h.objs.size + 1, NsP) :: (psN ++ [(h.objs.size, LstP ys)])) (hb := hideAll h wr) So.live (fun a ha => ?_) (fun p hp => ?_) ?_ (fun a ha => S₃.apart a (inQ' a ha)) fun a ha => ?_)
      · have : a ∈ own ++ (psW ++ psR).map (·.1) := by
          rw [List.map_append] at ha ⊢; rw [hpw] at ha; exact ha
        exact So.lt this
      · rcases List.mem_cons.mp hp with q | q
        · obtain ⟨mL, ⟨o, es, ep, ho, hd, hk, _⟩, _⟩ := S₃.lo.ns
          rw [q]; exact ⟨o, ho, es, ep, hd, hk⟩
        · exact S₃.ents p (inQ p q)
      · rw [List.map_cons]
        refine List.nodup_cons.mpr ⟨fun q => ?_, ?_⟩
        · exact (List.nodup_append.mp S₃.nodup).2.2 _ CL _ (inP _ q) rfl
        · refine List.Nodup.sublist ?_ (List.nodup_append.mp nd₃).2.1
          rw [List.map_append]
          exact (List.sublist_append_left _ _).append (List.Sublist.refl _)
      · refine S₃.fresh a (inQ' a ha) fun q => ?_
        rw [← hpw] at q
        have n1 := (List.nodup_append.mp nd₃).2.1
        rw [List.map_cons, List.map_append] at ha
        rcases List.mem_cons.mp ha with z | z
        · rw [z] at q
          exact (List.nodup_append.mp nd₃).2.2 _ CL _ (List.mem_append_left _ (List.mem_append_right _ q)) rfl
        · rw [List.append_assoc] at n1
          rcases List.mem_append.mp z with z | z
          · exact (List.nodup_append.mp n1).2.2 a z a (List.mem_append_left _ q) rfl
          · exact (List.nodup_append.mp (List.nodup_append.mp n1).2.1).2.2 a q a z rfl
  refine codeAny_compStart_list loop ?_
  exact IT.self 0 (mk s h2 t) _ _ st2 loop

theorem NsP.ns {o : Obj} {h : Heap} {a : Addr} (x : NsP o) (e : h.get? a = some o) : ∃ mC, h.Ns a mC := by
  obtain ⟨es, ep, hd, hk⟩ := x
  exact ⟨_, o, es, ep, e, hd, hk, fun _ => rfl⟩

/-- one private object is let go and may be anything -/
theorem Fm.lose {a : Addr} {P : Obj → Prop} {ps : List Ent} (S : Fm W B₀ h₀ own env B m ((a, P) :: ps) h) (hL : env.locals ∈ own) (hC : ∀ x c, (x, c) ∈ env.cells → c ≠ a) (hW : a ∉ W)
    (k : ∀ b o, b ≠ a → h.get? b = some o → h'.get? b = some o) : Fm W B₀ h₀ own env B m ps h' := by
  have S₁ : Fm W B₀ h₀ own env B m ((a, fun o => h.get? a = some o) :: ps) h :=
    { S with
      ents := fun p hp => by
        rcases List.mem_cons.mp hp with q | q
        · obtain ⟨o, e, _⟩ := S.ents (a, P) (List.mem_cons_self ..)
          rw [q]; exact ⟨o, e, e⟩
        · exact S.ents p (List.mem_cons_of_mem _ q)
      nodup := S.nodup
      apart := S.apart
      fresh := S.fresh }
  have S₂ : Fm W B₀ h₀ own env B m (ps ++ Hold h [a]) h := S₁.perm (List.perm_append_comm (l₁ := [_]) (l₂ := ps))
  exact S₂.gone (fun b o hb e => k b o (fun q => hb (by rw [q]; exact List.mem_singleton.mpr rfl)) e) hL (fun x c hc q => hC x c hc (List.mem_singleton.mp q)) fun b hb => by rw [List.mem_singleton.mp hb]; exact hW

/-- the end of a comprehension whose value goes on -/
theorem comp_none {Q : Value → Shared → Prop} {C : Addr} {ps : List Ent} {acc : Value} (S : Fm W B₀ h₀ own env B m ((C, NsP) :: ps) h) (hL : env.locals ∈ own) (hC : ∀ x c, (x, c) ∈ env.cells → c ≠ C) (hW : C ∉ W)
    (hq : ∀ h', Fm W B₀ h₀ own env B m ps h' → Q acc (mk s h' tk)) : compPost (model prog w) A E none Q acc C (.ok .next) (mk s h tk) := by
  obtain ⟨o, e, x⟩ := S.ents (C, NsP) (List.mem_cons_self ..)
  obtain ⟨mC, hn⟩ := x.ns e
  exact ⟨mC, hn, fun h' hs => hq h' (S.lose hL hC hW hs.extBut)⟩

/-- the end of a comprehension whose value is stored -/
theorem comp_some {Q : Flow → Shared → Prop} {C : Addr} {ps : List Ent} {y : Str} {py : Pos} {v : Value} (S : Fm W B₀ h₀ own env B m ((C, NsP) :: ps) h) (hL : env.locals ∈ own) (hC : ∀ x c, (x, c) ∈ env.cells → c ≠ C) (hW : C ∉ W) (hy : CanSt env own y)
    (hq : ∀ h' tk', Fm W B₀ h₀ own env B (upd m y v) ps h' → Q .next (mk s h' tk')) : compPost (model prog w) A E (some (assign (.Name y py) env)) (fun _ s' => Q .next s') v C (.ok .next) (mk s h tk) := by
  show wpAny (model prog w) A (assign (.Name y py) env v) _ E (mk s h tk)
  refine wpAny_assign_Name (hy _ _ _ s h tk W B₀ h₀ B m _ v _ S fun h₂ tk₂ S₂ => ?_)
  obtain ⟨o, e, x⟩ := S₂.ents (C, NsP) (List.mem_cons_self ..)
  obtain ⟨mC, hn⟩ := x.ns e
  exact ⟨mC, hn, fun h' hs => hq h' tk₂ (S₂.lose hL hC hW hs.extBut)⟩

theorem comp_start {elt tgt iter : Expr} {ifs : List Expr} {scope : Scope} {cpos : Pos} (cl : List (Str × Addr)) {s : Shared} {Q : Value → Shared → Prop}
    (hclos : closureFor scope env = pure cl) (hkind : scope.kind = .function) (hnames : ∀ x ∈ scope.names, x.2 = .local → scope.names.lookup x.1 = some .local)
    (h : wpAny (model prog w) A (eval iter env) (fun xv s₁ => wpAny (model prog w) A (pyIter xv) (fun it s₂ =>
      wpAny (model prog w) A (newList []) (fun acc s₃ => wpAny (model prog w) A (newFunctionEnv scope env.globals cl [] env.qual none .none (some env)) (fun cenv s₄ =>
        codeAny (model prog w) A (.compStart (.ListComp elt [⟨tgt, iter, ifs, 0⟩] scope cpos) 0 it acc { cenv with scope := relabel scope env }) (compPost (model prog w) A E none Q acc cenv.locals) s₄) E s₃) E s₂) E s₁) E s)
    (hs : ∀ x, foldedSetIterable iter env x = pure x := by intro _; rfl) : wpAny (model prog w) A (eval (.ListComp elt [⟨tgt, iter, ifs, 0⟩] scope cpos) env) Q E s := by
  rw [eval_ListComp]
  exact wpAny_comprehension_free (use := none) rfl hs hclos hkind hnames h

/-- «y = [..]» -/
theorem comp_assign {elt tgt iter : Expr} {ifs : List Expr} {scope : Scope} {cpos spos py : Pos} {y : Str} (cl : List (Str × Addr)) {s : Shared} {Q : Flow → Shared → Prop}
    (hsw : swapsWith (.ListComp elt [⟨tgt, iter, ifs, 0⟩] scope cpos) (some (.Name y py)) spos.line env = pure true)
    (hclos : closureFor scope env = pure cl) (hkind : scope.kind = .function) (hnames : ∀ x ∈ scope.names, x.2 = .local → scope.names.lookup x.1 = some .local)
    (h : wpAny (model prog w) A (eval iter env) (fun xv s₁ => wpAny (model prog w) A (pyIter xv) (fun it s₂ =>
      wpAny (model prog w) A (newList []) (fun acc s₃ => wpAny (model prog w) A (newFunctionEnv scope env.globals cl [] env.qual none .none (some env)) (fun cenv s₄ =>
        codeAny (model prog w) A (.compStart (.ListComp elt [⟨tgt, iter, ifs, 0⟩] scope cpos) 0 it acc { cenv with scope := relabel scope env }) (compPost (model prog w) A E (some (assign (.Name y py) env)) (fun _ s' => Q .next s') acc cenv.locals) s₄) E s₃) E s₂) E s₁) E s)
    (hs : ∀ x, foldedSetIterable iter env x = pure x := by intro _; rfl) : wpAny (model prog w) A (exec (.Assign [.Name y py] (.ListComp elt [⟨tgt, iter, ifs, 0⟩] scope cpos) spos) env) Q E s := by
  rw [exec_Assign_Name_used _ _ _ _ hsw]
  refine wpAny_bind (wpAny_standAt (wpAny_bind ?_))
  show wpAny _ A (do let _ ← comprehension (.ListComp elt [⟨tgt, iter, ifs, 0⟩] scope cpos) scope env _ (newList []) false (eval iter env) (some (assign (.Name y py) env))) _ _ s
  exact wpAny_bind (wpAny_mono (wpAny_comprehension_free (use := some (assign (.Name y py) env)) (Q := fun _ s' => Q .next s') rfl hs hclos hkind hnames h) (fun _ s' hq => wpAny_pure (wpAny_pure hq)) fun _ _ e => e)

/-- a comprehension whose turns only add: its list is of the base at the end -/
theorem comp_pure {elt tgt iter : Expr} {ifs : List Expr} {scope : Scope} {cpos : Pos} {cl : List (Str × Addr)} {ps : List Ent} {hd : Heap} {wr : List Addr} {I : Addr} {n : Nat}
    {P : Nat → (Str → Option Value) → (Str → Option Value) → Prop} {ok : Env → List Addr → Prop} {St : Nat → Heap → Prop} {RR : Value → Addr → Result → Shared → Prop}
    (G : Nat → Base → List Value → Prop) (IT : Itr prog w A tgt B I wr n P ok St) (hN : NewW W env wr) (st : St 0 h) (S : Fm W B₀ h₀ own env B m (ps ++ Hold hd wr) h) (hL : env.locals ∈ own)
    (g0 : G 0 B []) (hG : ∀ B₁ B₂ ys, B₁.le B₂ → G n B₁ ys → G n B₂ ys) (hn : n ≤ sizeLine)
    (cn : List Str) (hcl : ∀ p ∈ cl, env.kindOf p.1 = some .cell ∧ env.cells.lookup p.1 = some p.2 ∧ (relabel scope env).names.lookup p.1 = some .cell) (hcn : ∀ n, (cellsFrom n scope.names cl).map (·.1) = cn) (hnd : cn.Nodup)
    (hok : ∀ C, ok (cenvOf scope env cl C) (cownOf scope C))
    (turn : ∀ C D i B₁ m₂ ys h₁ tk₁ (E' : Value → Shared → Prop), i < n → ys.length ≤ i → B.le B₁ → G i B₁ ys → P i (mcOf cl m) m₂ →
      Fm [] B (hideAll h wr) (cownOf scope C) (cenvOf scope env cl C) B₁ m₂ ((D, LstP ys) :: Hold h₁ wr) h₁ →
      wpAny (model prog w) A (testsOf ifs (cenvOf scope env cl C)) (fun okb s₃ =>
        if okb = true then wpAny (model prog w) A (eval elt (cenvOf scope env cl C)) (fun y s₄ => ∃ B₂ m₃ h₂ tk₂, s₄ = mk s h₂ tk₂ ∧ B₁.le B₂ ∧ G (i + 1) B₂ (ys ++ [y]) ∧ (∀ x v, mcOf cl m x = some v → m₃ x = some v) ∧
          Fm [] B (hideAll h wr) (cownOf scope C) (cenvOf scope env cl C) B₂ m₃ ((D, LstP ys) :: Hold h₁ wr) h₂) E' s₃
        else ∃ B₂ m₃ h₂ tk₂, s₃ = mk s h₂ tk₂ ∧ B₁.le B₂ ∧ G (i + 1) B₂ ys ∧ (∀ x v, mcOf cl m x = some v → m₃ x = some v) ∧
          Fm [] B (hideAll h wr) (cownOf scope C) (cenvOf scope env cl C) B₂ m₃ ((D, LstP ys) :: Hold h₁ wr) h₂) E' (mk s h₁ tk₁))
    (done : ∀ C D B₂ c ys h' tk', NewW W env [C] → B.le B₂ → G n B₂ ys → ys.length ≤ n → B₂ D = some (lstO ys c) → Fm W B₀ h₀ own env B₂ m ((C, NsP) :: ps) h' → RR (.ref D) C (.ok .next) (mk s h' tk')) :
    wpAny (model prog w) A (newList []) (fun acc s₃ => wpAny (model prog w) A (newFunctionEnv scope env.globals cl [] env.qual none .none (some env)) (fun cenv s₄ =>
      codeAny (model prog w) A (.compStart (.ListComp elt [⟨tgt, iter, ifs, 0⟩] scope cpos) 0 (.ref I) acc { cenv with scope := relabel scope env }) (RR acc cenv.locals) s₄) E s₃) E (mk s h tk) := by
  refine comp_go (psW := []) (psR := ps) (fun i B₁ psN psW₁ ys => psN = [] ∧ psW₁ = [] ∧ G i B₁ ys) IT hN hL (fun _ _ _ q => by cases q) S st ⟨rfl, rfl, g0⟩ hn cn hcl hcn hnd hok ?_ ?_
  · rintro C D i B₁ m₂ psN psW₁ ys h₁ tk₁ E' _ _ hi hy le _ ⟨rfl, rfl, g⟩ p F
    refine wpAny_mono (turn C D i B₁ m₂ ys h₁ tk₁ E' hi hy le g p F) (fun okb s₃ q => ?_) fun _ _ q => q
    cases okb with
    | false =>
      obtain ⟨B₂, m₃, h₂, tk₂, e, le₂, g₂, hm, F₂⟩ := q
      exact ⟨B₂, m₃, [], [], h₂, tk₂, e, le₂, rfl, ⟨rfl, rfl, g₂⟩, hm, F₂⟩
    | true =>
      refine wpAny_mono q (fun y s₄ q => ?_) fun _ _ q => q
      obtain ⟨B₂, m₃, h₂, tk₂, e, le₂, g₂, hm, F₂⟩ := q
      exact ⟨B₂, m₃, [], [], h₂, tk₂, e, le₂, rfl, ⟨rfl, rfl, g₂⟩, hm, F₂⟩
  · rintro C D B₂ psN psW₂ ys h' tk' hD hC le _ ⟨rfl, rfl, g⟩ hy F
    have nC : NewW W env [C] := S.newW fun a ha => by rw [List.mem_singleton.mp ha]; exact none_ge hC
    have nD : NewW W env [D] := S.newW fun a ha => by rw [List.mem_singleton.mp ha]; exact none_ge hD
    have F' : Fm W B₀ h₀ own env B₂ m ((D, LstP ys) :: (C, NsP) :: ps) h' := F.perm (List.Perm.swap ..)
    obtain ⟨B₃, le₃, ⟨o, e, c, rfl⟩, F₃⟩ := F'.freeze (nD.1 D (List.mem_singleton.mpr rfl))
    exact done C D B₃ c ys h' tk' nC (le.trans le₃) (hG _ _ _ le₃ g) hy e F₃

/-- the same, its list one's own at the end -/
theorem comp_priv {elt tgt iter : Expr} {ifs : List Expr} {scope : Scope} {cpos : Pos} {cl : List (Str × Addr)} {ps : List Ent} {hd : Heap} {wr : List Addr} {I : Addr} {n : Nat}
    {P : Nat → (Str → Option Value) → (Str → Option Value) → Prop} {ok : Env → List Addr → Prop} {St : Nat → Heap → Prop} {RR : Value → Addr → Result → Shared → Prop}
    (G : Nat → Base → List Value → Prop) (IT : Itr prog w A tgt B I wr n P ok St) (hN : NewW W env wr) (st : St 0 h) (S : Fm W B₀ h₀ own env B m (ps ++ Hold hd wr) h) (hL : env.locals ∈ own)
    (g0 : G 0 B []) (hn : n ≤ sizeLine)
    (cn : List Str) (hcl : ∀ p ∈ cl, env.kindOf p.1 = some .cell ∧ env.cells.lookup p.1 = some p.2 ∧ (relabel scope env).names.lookup p.1 = some .cell) (hcn : ∀ n, (cellsFrom n scope.names cl).map (·.1) = cn) (hnd : cn.Nodup)
    (hok : ∀ C, ok (cenvOf scope env cl C) (cownOf scope C))
    (turn : ∀ C D i B₁ m₂ ys h₁ tk₁ (E' : Value → Shared → Prop), i < n → ys.length ≤ i → B.le B₁ → G i B₁ ys → P i (mcOf cl m) m₂ →
      Fm [] B (hideAll h wr) (cownOf scope C) (cenvOf scope env cl C) B₁ m₂ ((D, LstP ys) :: Hold h₁ wr) h₁ →
      wpAny (model prog w) A (testsOf ifs (cenvOf scope env cl C)) (fun okb s₃ =>
        if okb = true then wpAny (model prog w) A (eval elt (cenvOf scope env cl C)) (fun y s₄ => ∃ B₂ m₃ h₂ tk₂, s₄ = mk s h₂ tk₂ ∧ B₁.le B₂ ∧ G (i + 1) B₂ (ys ++ [y]) ∧ (∀ x v, mcOf cl m x = some v → m₃ x = some v) ∧
          Fm [] B (hideAll h wr) (cownOf scope C) (cenvOf scope env cl C) B₂ m₃ ((D, LstP ys) :: Hold h₁ wr) h₂) E' s₃
        else ∃ B₂ m₃ h₂ tk₂, s₃ = mk s h₂ tk₂ ∧ B₁.le B₂ ∧ G (i + 1) B₂ ys ∧ (∀ x v, mcOf cl m x = some v → m₃ x = some v) ∧
          Fm [] B (hideAll h wr) (cownOf scope C) (cenvOf scope env cl C) B₂ m₃ ((D, LstP ys) :: Hold h₁ wr) h₂) E' (mk s h₁ tk₁))
    (done : ∀ C D B₂ ys h' tk', NewW W env [C] → h.get? D = none → B.le B₂ → G n B₂ ys → ys.length ≤ n → Fm W B₀ h₀ own env B₂ m ((C, NsP) :: (D, LstP ys) :: ps) h' → RR (.ref D) C (.ok .next) (mk s h' tk')) :
    wpAny (model prog w) A (newList []) (fun acc s₃ => wpAny (model prog w) A (newFunctionEnv scope env.globals cl [] env.qual none .none (some env)) (fun cenv s₄ =>
      codeAny (model prog w) A (.compStart (.ListComp elt [⟨tgt, iter, ifs, 0⟩] scope cpos) 0 (.ref I) acc { cenv with scope := relabel scope env }) (RR acc cenv.locals) s₄) E s₃) E (mk s h tk) := by
  refine comp_go (psW := []) (psR := ps) (fun i B₁ psN psW₁ ys => psN = [] ∧ psW₁ = [] ∧ G i B₁ ys) IT hN hL (fun _ _ _ q => by cases q) S st ⟨rfl, rfl, g0⟩ hn cn hcl hcn hnd hok ?_ ?_
  · rintro C D i B₁ m₂ psN psW₁ ys h₁ tk₁ E' _ _ hi hy le _ ⟨rfl, rfl, g⟩ p F
    refine wpAny_mono (turn C D i B₁ m₂ ys h₁ tk₁ E' hi hy le g p F) (fun okb s₃ q => ?_) fun _ _ q => q
    cases okb with
    | false =>
      obtain ⟨B₂, m₃, h₂, tk₂, e, le₂, g₂, hm, F₂⟩ := q
      exact ⟨B₂, m₃, [], [], h₂, tk₂, e, le₂, rfl, ⟨rfl, rfl, g₂⟩, hm, F₂⟩
    | true =>
      refine wpAny_mono q (fun y s₄ q => ?_) fun _ _ q => q
      obtain ⟨B₂, m₃, h₂, tk₂, e, le₂, g₂, hm, F₂⟩ := q
      exact ⟨B₂, m₃, [], [], h₂, tk₂, e, le₂, rfl, ⟨rfl, rfl, g₂⟩, hm, F₂⟩
  · rintro C D B₂ psN psW₂ ys h' tk' hD hC le _ ⟨rfl, rfl, g⟩ hy F
    have nC : NewW W env [C] := S.newW fun a ha => by rw [List.mem_singleton.mp ha]; exact none_ge hC
    exact done C D B₂ ys h' tk' nC (none_ge hD) le g hy F

/-- no tests -/
theorem tests_nil {env : Env} {Q : Bool → Shared → Prop} {s : Shared} (h : Q true s) : wpAny (model prog w) A (testsOf [] env) Q E s := wpAny_tests_nil h
theorem tests_one {env : Env} {c : Expr} {Q : Bool → Shared → Prop} {s : Shared} (h : wpAny (model prog w) A (isTrue c env (eval c env)) Q E s) : wpAny (model prog w) A (testsOf [c] env) Q E s := wpAny_tests_one h
end
/-! data -/
abbrev Rel (α : Type) := Base → α → Value → Prop
def Mono {α : Type} (P : Rel α) : Prop := ∀ B B' x v, B.le B' → P B x v → P B' x v
def IntV : Rel Int := fun _ i v => ∃ t, v = .int i t
def RatV : Rel Rat := fun B r v => ∃ t n x y, v = .ref t ∧ B t = some (tupO [.int r.num x, .int r.den y] n)
def LV {α : Type} (P : Rel α) : Rel (List α) := fun B xs v => ∃ l vs c, v = .ref l ∧ B l = some (lstO vs c) ∧ Paired (P B) xs vs
theorem IntV.mono : Mono IntV := fun _ _ _ _ _ h => h
theorem RatV.mono : Mono RatV := fun _ _ _ _ l h => let ⟨t, n, a, b, e, h⟩ := h; ⟨t, n, a, b, e, l _ _ h⟩
theorem RatV.le {B B' : Base} {r : Rat} {v : Value} (x : RatV B r v) (l : B.le B') : RatV B' r v := RatV.mono _ _ _ _ l x
theorem pImp {α β : Type} {F G : α → β → Prop} (h : ∀ a b, F a b → G a b) : ∀ {xs : List α} {ys : List β}, Paired F xs ys → Paired G xs ys
  | _, _, .nil => .nil
  | _, _, .cons a r => .cons (h _ _ a) (pImp h r)
theorem pMono {α : Type} {P : Rel α} (hP : Mono P) {B B' : Base} (l : B.le B') {xs : List α} {vs : List Value} (h : Paired (P B) xs vs) : Paired (P B') xs vs := pImp (fun _ _ => hP _ _ _ _ l) h
theorem LV.mono {α : Type} {P : Rel α} (hP : Mono P) : Mono (LV P) := fun _ _ _ _ l h => let ⟨a, vs, c, e, b, p⟩ := h; ⟨a, vs, c, e, l _ _ b, pMono hP l p⟩
theorem pGet {α β : Type} {F : α → β → Prop} : ∀ {xs : List α} {ys : List β}, Paired F xs ys → ∀ {i : Nat} {x : α}, xs[i]? = some x → ∃ y, ys[i]? = some y ∧ F x y
  | _, _, .cons h _, 0, _, e => by cases e; exact ⟨_, rfl, h⟩
  | _, _, .cons _ r, i + 1, _, e => pGet r (i := i) (by simpa using e)
theorem pGet' {α β : Type} {F : α → β → Prop} : ∀ {xs : List α} {ys : List β}, Paired F xs ys → ∀ {i : Nat} {y : β}, ys[i]? = some y → ∃ x, xs[i]? = some x ∧ F x y
  | _, _, .cons h _, 0, _, e => by cases e; exact ⟨_, rfl, h⟩
  | _, _, .cons _ r, i + 1, _, e => pGet' r (i := i) (by simpa using e)
theorem pLen {α β : Type} {F : α → β → Prop} {xs : List α} {ys : List β} (h : Paired F xs ys) : ys.length = xs.length := h.length.symm
theorem pSet {α β : Type} {F : α → β → Prop} {x : α} {y : β} : ∀ {xs : List α} {ys : List β} (i : Nat), Paired F xs ys → F x y → Paired F (xs.set i x) (ys.set i y)
  | _, _, _, .nil, _ => .nil
  | _, _, 0, .cons _ r, h => .cons h r
  | _, _, i + 1, .cons a r, h => .cons a (pSet i r h)
theorem pTake {α β : Type} {F : α → β → Prop} : ∀ {xs : List α} {ys : List β} (i : Nat), Paired F xs ys → Paired F (xs.take i) (ys.take i)
  | _, _, 0, _ => by simpa using Paired.nil
  | _, _, _ + 1, .nil => .nil
  | _, _, i + 1, .cons a r => .cons a (pTake i r)
theorem pAppend {α β : Type} {F : α → β → Prop} : ∀ {xs : List α} {ys : List β} {xs' : List α} {ys' : List β}, Paired F xs ys → Paired F xs' ys' → Paired F (xs ++ xs') (ys ++ ys')
  | _, _, _, _, .nil, h => h
  | _, _, _, _, .cons a r, h => .cons a (pAppend r h)
theorem pSnocTake {α β : Type} {F : α → β → Prop} {xs : List α} {ys : List β} {i : Nat} {x : α} {y : β} (h : Paired F (xs.take i) ys) (hx : xs[i]? = some x) (hxy : F x y) : Paired F (xs.take (i + 1)) (ys ++ [y]) := by
  rw [List.take_add_one, hx]
  exact Paired.snoc h hxy
theorem pWhole {α β : Type} {F : α → β → Prop} {xs : List α} {ys : List β} {n : Nat} (h : Paired F (xs.take n) ys) (hn : n = xs.length) : Paired F xs ys := by
  subst hn
  rwa [List.take_length] at h
abbrev RowV : Rel (List Rat) := LV RatV
abbrev MatV : Rel (List (List Rat)) := LV RowV
abbrev IntsV : Rel (List Int) := LV IntV
abbrev IMatV : Rel (List (List Int)) := LV IntsV
theorem RowV.mono : Mono RowV := LV.mono RatV.mono
theorem MatV.mono : Mono MatV := LV.mono RowV.mono
theorem IntsV.mono : Mono IntsV := LV.mono IntV.mono
theorem IMatV.mono : Mono IMatV := LV.mono IntsV.mono
theorem IntV.mk {B : Base} {i : Int} {t : Tok} : IntV B i (.int i t) := ⟨t, rfl⟩
theorem RatV.mk {B : Base} {r : Rat} {t : Addr} {a d : Int} {x y : Tok} {n : Nat} (e : B t = some (tupO [.int a x, .int d y] n)) (ha : r.num = a) (hd : (r.den : Int) = d) : RatV B r (.ref t) :=
  ⟨t, n, x, y, rfl, by rw [ha, hd]; exact e⟩

theorem mc_upd {cl : List (Str × Addr)} {m : Str → Option Value} {t : Str} {v : Value} (ht : cl.lookup t = none) : ∀ x u, mcOf cl m x = some u → upd (mcOf cl m) t v x = some u := fun x u h => by
  by_cases q : x = t
  · subst q; unfold mcOf at h; rw [ht] at h; cases h
  · show (if x = t then _ else _) = _
    rw [if_neg q]; exact h
theorem mc_upd2 {cl : List (Str × Addr)} {m : Str → Option Value} {t t' : Str} {v v' : Value} (ht : cl.lookup t = none) (ht' : cl.lookup t' = none) : ∀ x u, mcOf cl m x = some u → upd (upd (mcOf cl m) t v) t' v' x = some u := fun x u h => by
  by_cases q : x = t'
  · subst q; unfold mcOf at h; rw [ht'] at h; cases h
  · show (if x = t' then _ else _) = _
    rw [if_neg q]; exact mc_upd ht x u h

def wd {α : Type} : List (List α) → Nat
  | [] => 0
  | r :: _ => r.length
/-- no size is a worry -/
def Dims {α : Type} (M : List (List α)) : Prop := M.length ≤ 1000 ∧ ∀ r ∈ M, r.length ≤ 1000

def qrow (r : List Int) : List Rat := r.map fun (i : Int) => (i : Rat)
def qmat (M : List (List Int)) : List (List Rat) := M.map qrow
def rowSub (q : Rat) (r p : List Rat) : List Rat := List.zipWith (fun x y => x - q * y) r p
theorem fits {n : Nat} (h : n ≤ 1000) : n ≤ sizeLine := Nat.le_trans h (by unfold sizeLine; decide)

section
variable {prog : Program} {w : World} {A : Around} {E : Value → Shared → Prop} {s : Shared} {tk : Nat}
variable {W : List Addr} {B₀ B B' : Base} {h₀ h h' : Heap} {own : List Addr} {env : Env} {m : Str → Option Value} {ps : List Ent} {x : Str} {pos : Pos} {v : Value} {Q : Value → Shared → Prop}

theorem lenL {l : Addr} {vs : List Value} (hl : h.PlainList l vs.toArray) (hz : vs.length < 2 ^ 62) (hq : ∀ t tk', Q (.int vs.length t) (mk s h tk')) :
    wpAny (model prog w) A (call (.builtin "len") [.ref l]) Q E (mk s h tk) :=
  Calls.call_len_list (s := mk s h tk) hl.isList (by rw [List.size_toArray]; omega) (by rw [List.size_toArray]; exact hq _ _)

/-- a copy, never changed -/
theorem copyB {l : Addr} {vs : List Value} (S : Fm W B₀ h₀ own env B m ps h) (hl : h.PlainList l vs.toArray) (hz : vs.length ≤ sizeLine)
    (hq : ∀ B' h' D c, B.le B' → B' D = some (lstO vs c) → Fm W B₀ h₀ own env B' m ps h' → Q (.ref D) (mk s h' tk)) : wpAny (model prog w) A (call (.type "list") [.ref l]) Q E (mk s h tk) := by
  obtain ⟨c, e⟩ := hl
  refine call_list_seq (s := mk s h tk) l (.inl rfl) e rfl rfl (fun h' c' k eD => ?_) (by rw [List.size_toArray]; exact hz)
  obtain ⟨B', X, e'⟩ := Ext.alloc (a := h.objs.size) (o := lstO vs c') S.sub newAt k eD
  exact hq B' h' _ c' X.le e' (S.ext X)
/-- a copy of one's own -/
theorem copyP {l : Addr} {vs : List Value} (S : Fm W B₀ h₀ own env B m ps h) (hl : h.PlainList l vs.toArray) (hz : vs.length ≤ sizeLine)
    (hq : ∀ h' D, h.get? D = none → Fm W B₀ h₀ own env B m ((D, LstP vs) :: ps) h' → Q (.ref D) (mk s h' tk)) : wpAny (model prog w) A (call (.type "list") [.ref l]) Q E (mk s h tk) := by
  obtain ⟨c, e⟩ := hl
  refine call_list_seq (s := mk s h tk) l (.inl rfl) e rfl rfl (fun h' c' k eD => ?_) (by rw [List.size_toArray]; exact hz)
  exact hq h' _ newAt (S.push newAt k eD ⟨c', rfl⟩)

/-- a callee's new thing is taken over -/
theorem Fm.take {D : Addr} {o : Obj} {P : Obj → Prop} (S : Fm W B₀ h₀ own env B m ps h) (X : Ext B h B' h') (hn : h.get? D = none) (hB : B' D = none) (e : h'.get? D = some o) (hp : P o) :
    Fm W B₀ h₀ own env B' m ((D, P) :: ps) h' := by
  have S' := S.ext X
  have ne : ∀ a ∈ own ++ ps.map (·.1), a ≠ D := fun a ha q => by
    obtain ⟨o, e⟩ := S.lt ha
    rw [q, hn] at e; cases e
  have hh : h₀.get? D = none := by
    cases q : h₀.get? D with
    | none => rfl
    | some o => obtain ⟨o', e'⟩ := S.live D o q; rw [hn] at e'; cases e'
  exact { S' with
    ents := fun p hp' => by
      rcases List.mem_cons.mp hp' with q | q
      · rw [q]; exact ⟨o, e, hp⟩
      · exact S'.ents p q
    nodup := by
      rw [List.map_cons]
      exact (List.Perm.nodup_iff List.perm_middle).mpr (List.nodup_cons.mpr ⟨fun q => ne D q rfl, S'.nodup⟩)
    apart := fun b hb => by
      rw [List.map_cons] at hb
      rcases List.mem_cons.mp (List.perm_middle.mem_iff.mp hb) with z | z
      · rw [z]; exact hB
      · exact S'.apart b z
    fresh := fun b hb hW => by
      rw [List.map_cons] at hb
      rcases List.mem_cons.mp (List.perm_middle.mem_iff.mp hb) with z | z
      · rw [z]; exact hh
      · exact S'.fresh b z hW }

theorem pInts {B : Base} : ∀ {xs : List Int} {vs : List Value}, Paired (IntV B) xs vs → IntsAre vs xs
  | _, _, .nil => .nil
  | _, _, .cons ⟨t, e⟩ r => by rw [e]; exact .cons _ t (pInts r)

theorem setI {l : Addr} {vs : List Value} {k : Int} {t : Tok} {Q : Unit → Shared → Prop} (hl : h.PlainList l vs.toArray) (h0 : 0 ≤ k) (hk : k < 2 ^ 63) (hn : k.toNat < vs.length)
    (hq : ∀ h', (∃ o, h'.get? l = some o ∧ LstP (vs.set k.toNat v) o) → Heap.SameBut l h h' → Q () (mk s h' tk)) : wpAny (model prog w) A (setItem (.ref l) (.int k t) v) Q E (mk s h tk) := by
  obtain ⟨n, e⟩ := hl
  refine ki_setAt (s := mk s h tk) (n := n) e h0 hk (by rw [List.size_toArray]; omega) (hq _ ⟨_, Heap.get?_update_self _ e rfl, n, ?_⟩ (Heap.SameBut.update ..))
  simp [Obj.mapSeq, lstO]

theorem own_cells {env : Env} : ∀ x c, (x, c) ∈ env.cells → c ∈ ownOf env := fun _ _ hm => List.mem_cons_of_mem _ (List.mem_map_of_mem (f := fun p : Str × Addr => p.2) hm)

/-- an item of a list of one's own is set -/
theorem setP (ps₁ : List Ent) {ps₂ : List Ent} {l : Addr} {vs : List Value} {k : Int} {t : Tok} {Q : Unit → Shared → Prop} (S : Fm W B₀ h₀ (ownOf env) env B m (ps₁ ++ (l, LstP vs) :: ps₂) h) (h0 : 0 ≤ k) (hk : k < 2 ^ 63) (hn : k.toNat < vs.length)
    (hq : ∀ h', Fm W B₀ h₀ (ownOf env) env B m (ps₁ ++ (l, LstP (vs.set k.toNat v)) :: ps₂) h' → Q () (mk s h' tk)) : wpAny (model prog w) A (setItem (.ref l) (.int k t) v) Q E (mk s h tk) := by
  refine setI (S.plain (by simp)) h0 hk hn fun h' ⟨o, e, p⟩ hs => hq h' ?_
  refine S.set hs.extBut e p (List.mem_cons_self ..) fun x c hm q => ?_
  exact (List.nodup_append.mp S.nodup).2.2 c (own_cells x c hm) l (by simp) q

/-- append to a list of one's own -/
theorem appP (ps₁ : List Ent) {ps₂ : List Ent} {l : Addr} {vs : List Value} {Q : Value → Shared → Prop} (S : Fm W B₀ h₀ (ownOf env) env B m (ps₁ ++ (l, LstP vs) :: ps₂) h) (hn : vs.length ≤ sizeLine)
    (hq : ∀ h', Fm W B₀ h₀ (ownOf env) env B m (ps₁ ++ (l, LstP (vs ++ [v])) :: ps₂) h' → Q .none (mk s h' tk)) : wpAny (model prog w) A (call (.builtin "list.append") [.ref l, v]) Q E (mk s h tk) := by
  have pl : h.PlainList l vs.toArray := S.plain (by simp)
  refine wpAny_list_append_plain (s := mk s h tk) pl (fun h' pl' hs => ?_) (by rw [List.size_toArray]; exact hn)
  obtain ⟨c, e⟩ := pl'
  have e : h'.get? l = some (lstO (vs ++ [v]) c) := by rw [e]; simp [lstO]
  refine hq h' (S.set hs.extBut e ⟨c, rfl⟩ (List.mem_cons_self ..) fun x c hm q => ?_)
  exact (List.nodup_append.mp S.nodup).2.2 c (own_cells x c hm) l (by simp) q

theorem inInts {l : Addr} {vs : List Value} {ns : List Int} {k : Int} {t : Tok} (hl : h.PlainList l vs.toArray) (hi : Paired (IntV B) ns vs) (hq : Q (.bool (decide (k ∈ ns))) (mk s h tk)) :
    wpAny (model prog w) A (compareOp .In (.int k t) (.ref l)) Q E (mk s h tk) := by
  refine in_list_ints (s := mk s h tk) hl.isList (pInts hi) ?_
  have : (ns.any (· == k)) = decide (k ∈ ns) := by
    rw [Bool.eq_iff_iff]; simp [List.any_eq_true]
  rw [this]; exact hq

theorem readsAll_ints {h : Heap} : ∀ {vs : List Value} {ns : List Int}, IntsAre vs ns → ReadsAll h vs (ns.map PyData.int) []
  | _, _, .nil => .nil
  | _, _, .cons n t r => .cons (.int n t) (readsAll_ints r)
theorem eqInts {a b : Addr} {xs ys : List Value} {ns ms : List Int} (ha : h.PlainList a xs.toArray) (hb : h.PlainList b ys.toArray) (hi : Paired (IntV B) ns xs) (hj : Paired (IntV B) ms ys) (R : Room 0 A) (hq : Q (.bool (decide (ns = ms))) (mk s h tk)) :
    wpAny (model prog w) A (compareOp .Eq (.ref a) (.ref b)) Q E (mk s h tk) := ke_eq_ints (s := mk s h tk) ha.isList hb.isList (pInts hi) (pInts hj) (by have := R.units; omega) hq
theorem neInts {a b : Addr} {xs ys : List Value} {ns ms : List Int} (ha : h.PlainList a xs.toArray) (hb : h.PlainList b ys.toArray) (hi : Paired (IntV B) ns xs) (hj : Paired (IntV B) ms ys) (R : Room 0 A) (hq : Q (.bool (!decide (ns = ms))) (mk s h tk)) :
    wpAny (model prog w) A (compareOp .NotEq (.ref a) (.ref b)) Q E (mk s h tk) := ke_ne_ints (s := mk s h tk) ha.isList hb.isList (pInts hi) (pInts hj) (by have := R.units; omega) hq

def ratD (r : Rat) : PyData := .tuple [.int r.num, .int r.den]
theorem RatV.reads {r : Rat} {v : Value} (x : RatV B r v) (s : B.In h) : Reads h v (ratD r) [] := by
  obtain ⟨t, n, a, b, rfl, e⟩ := x
  exact .tuple (s _ _ e) rfl rfl (.cons (.int _ a) (.cons (.int _ b) .nil))
/-- «v != R0» -/
theorem neR0 {u v : Value} {r : Rat} (S : Fm W B₀ h₀ own env B m ps h) (hr : RatV B r u) (hz : RatV B 0 v) (R : Room 0 A) (hq : Q (.bool (decide (r ≠ 0))) (mk s h tk)) :
    wpAny (model prog w) A (compareOp .NotEq u v) Q E (mk s h tk) := by
  refine ne_dataH (s := mk s h tk) (hr.reads S.sub) (hz.reads S.sub) rfl rfl (by have := R.units; omega) ?_
  have : (!PyData.eqv (ratD r) (ratD 0)) = decide (r ≠ 0) := by
    have e : PyData.eqv (ratD r) (ratD 0) = decide (r = 0) := by
      have e1 : PyData.eqv (ratD r) (ratD 0) = ((r.num == 0) && (((r.den : Int) == 1) && true)) := rfl
      rw [e1, Bool.and_true, Bool.eq_iff_iff, Bool.and_eq_true, beq_iff_eq, beq_iff_eq, decide_eq_true_eq]
      constructor
      · intro q; exact Rat.num_eq_zero.mp q.1
      · rintro rfl; exact ⟨rfl, rfl⟩
    rw [e]; simp
  rw [this]; exact hq

theorem sumL {l : Addr} {vs : List Value} {ns : List Int} (hh : A.handled = none) (S : Fm W B₀ h₀ own env B m ps h) (hl : B l = some (lstO vs n)) (hi : Paired (IntV B) ns vs)
    (hq : ∀ h' tk' t, Fm W B₀ h₀ own env B m ps h' → Q (.int ns.sum t) (mk s h' tk')) : wpAny (model prog w) A (call (.builtin "sum") [.ref l]) Q E (mk s h tk) := by
  have L := lst_of S.sub hl
  have hall := (pInts hi).allInts
  obtain ⟨xs, hxs⟩ := hall.items
  rw [hxs] at L
  have e : ns.sum = preSum (numAt xs) xs.size := by
    have h1 := (pInts hi).numsOf
    have h2 : numsOf (vs.toArray).toList = ns := h1
    rw [hxs, nums_intItems] at h2
    rw [preSum_eq, List.take_of_length_le (by simp), h2]
  refine sum_intListG (s := mk s h tk) hh L fun h' tk' t' k => ?_
  rw [← e]
  exact hq h' tk' t' (S.ext (Ext.keeps S.sub k))

/-- a store into a place -/
theorem assignSub {M : Model} {o i : Expr} {pos : Pos} {v : Value} {Q : Unit → Shared → Prop} {s : Shared}
    (hq : wpAny M A (eval o env) (fun ov s₁ => wpAny M A (eval i env) (fun iv s₂ => wpAny M A (setItem ov iv v) Q E s₂) E s₁) E s) : wpAny M A (assign (.Subscript o i pos) env v) Q E s := by
  rw [PySem.assign_Subscript]
  refine wpAny_bind (wpAny_holding (wpAny_mono hq (fun ov s₁ h₁ => ?_) fun _ _ x => x))
  refine wpAny_bind (wpAny_holding (wpAny_mono h₁ (fun iv s₂ h₂ => ?_) fun _ _ x => x))
  refine wpAny_bind (wpAny_standAt (wpAny_bind (wpAny_holding (wpAny_mono h₂ (fun _ s₃ h₃ => ?_) fun _ _ x => x))))
  exact wpAny_release' h₃
end
/-! more rules -/
/-- names by a list -/
def mL (l : List (Str × Value)) : Str → Option Value := fun x => l.lookup x
theorem mL_forget {l : List (Str × Value)} {m : Str → Option Value} (h : ∀ p ∈ l, m p.1 = some p.2) : ∀ x v, mL l x = some v → m x = some v := fun x v e => by
  have : (x, v) ∈ l := mem_of_lookup e
  exact h _ this

section
variable {prog : Program} {w : World} {A : Around} {E : Value → Shared → Prop} {s : Shared} {tk : Nat}
variable {W : List Addr} {B₀ B B' : Base} {h₀ h h' : Heap} {own : List Addr} {env : Env} {m : Str → Option Value} {ps : List Ent} {x : Str} {pos : Pos} {v : Value}

theorem st_C' {K : Model} {c : Addr} {Q : Unit → Shared → Prop} (S : Fm W B₀ h₀ (ownOf env) env B m ps h)
    (hq : ∀ h' tk, Fm W B₀ h₀ (ownOf env) env B (upd m x v) ps h' → Q () (mk s h' tk))
    (hk : env.scope.kind = .function := by rfl) (hx : env.kindOf x = some .cell := by rfl) (hc : env.cells.lookup x = some c := by rfl) : wpAny K A (storeName env x v) Q E (mk s h tk) :=
  st_C S (own_cells x c (mem_of_lookup hc)) hq hk hx hc
theorem canC' {x : Str} {c : Addr} (hk : env.scope.kind = .function := by rfl) (hx : env.kindOf x = some .cell := by rfl) (hc : env.cells.lookup x = some c := by rfl) : CanSt env (ownOf env) x := canC (own_cells x c (mem_of_lookup hc)) hk hx hc

/-- a callee changes one object of one's own -/
theorem Fm.extW1 {l : Addr} {P P' : Obj → Prop} (ps₁ : List Ent) {ps₂ : List Ent} (S : Fm W B₀ h₀ (ownOf env) env B m (ps₁ ++ (l, P) :: ps₂) h) (X : ExtW [l] B h B' h') (e : ∃ o, h'.get? l = some o ∧ P' o) :
    Fm W B₀ h₀ (ownOf env) env B' m (ps₁ ++ (l, P') :: ps₂) h' := by
  have nd := S.nodup
  have nl : ∀ a ∈ ownOf env, a ∉ [l] := fun a ha q => (List.nodup_append.mp nd).2.2 a ha l (by simp) (List.mem_singleton.mp q)
  have nd2 := (List.nodup_append.mp nd).2.1
  rw [List.map_append, List.map_cons] at nd2
  have nd3 := List.nodup_cons.mp ((List.Perm.nodup_iff List.perm_middle).mp nd2)
  refine S.extW X (nl _ (List.mem_cons_self ..)) (fun y c hm => nl c (own_cells y c hm)) nl (fun a ha => by rw [List.mem_singleton.mp ha]; simp) (by simp) fun p hp => ?_
  have keep : ∀ p, p ∈ ps₁ ∨ p ∈ ps₂ → ∃ o, h'.get? p.1 = some o ∧ p.2 o := fun p hp => by
    obtain ⟨o, eo, po⟩ := S.ents p (by rcases hp with q | q <;> simp [q])
    have hm : p.1 ∈ ps₁.map (fun p : Ent => p.1) ++ ps₂.map (fun p : Ent => p.1) := by
      rcases hp with q | q
      · exact List.mem_append_left _ (List.mem_map_of_mem (f := fun p : Ent => p.1) q)
      · exact List.mem_append_right _ (List.mem_map_of_mem (f := fun p : Ent => p.1) q)
    exact ⟨o, X.keep _ _ (fun q => nd3.1 (List.mem_singleton.mp q ▸ hm)) eo, po⟩
  rcases List.mem_append.mp hp with q | q
  · exact keep p (.inl q)
  · rcases List.mem_cons.mp q with q | q
    · rw [q]; exact e
    · exact keep p (.inr q)

theorem comp_some' {Q' : Shared → Prop} {C : Addr} (y : Str) {py : Pos} (S : Fm W B₀ h₀ own env B m ((C, NsP) :: ps) h) (hL : env.locals ∈ own) (hC : ∀ x c, (x, c) ∈ env.cells → c ≠ C) (hW : C ∉ W) (hy : CanSt env own y)
    (hq : ∀ h' tk', Fm W B₀ h₀ own env B (upd m y v) ps h' → Q' (mk s h' tk')) : compPost (model prog w) A E (some (assign (.Name y py) env)) (fun _ s' => Q' s') v C (.ok .next) (mk s h tk) :=
  comp_some (Q := fun _ => Q') S hL hC hW hy hq

theorem cType {K : Model} {pos : Pos} {T : String} {e : Expr} {rest : List Expr} {s : Shared} {Q : Value → Shared → Prop}
    (h : wpAny K A (spliced (backTo pos (starEach (e :: rest) env))) (fun vs s₁ => wpAny K A (call (.type T) vs) Q E s₁) E s)
    (he : starEach (e :: rest) env = (false, eval e env) :: starEach rest env := by exact rfl)
    (hplain : (backTo pos (starEach rest env)).any (·.1) = false := by exact rfl) :
    wpAny K A (callWith pos (.type T) [] (backTo pos (starEach (e :: rest) env)) []) Q E s := PyProof.Rows.callWith_type1 h he hplain
theorem cBuilt {K : Model} {pos : Pos} {T : String} {e : Expr} {rest : List Expr} {s : Shared} {Q : Value → Shared → Prop}
    (h : wpAny K A (spliced (backTo pos (starEach (e :: rest) env))) (fun vs s₁ => wpAny K A (call (.builtin T) vs) Q E s₁) E s)
    (he : starEach (e :: rest) env = (false, eval e env) :: starEach rest env := by exact rfl)
    (hplain : (backTo pos (starEach rest env)).any (·.1) = false := by exact rfl) :
    wpAny K A (callWith pos (.builtin T) [] (backTo pos (starEach (e :: rest) env)) []) Q E s := PyProof.Rows.callWith_builtin1 h he hplain

theorem cS {K : Model} {x : Str} {k : Nat} {pos : Pos} {Q : Value → Shared → Prop} (hq : ∀ t tk', Q (.str x t) (mk s h tk')) : wpAny K A (eval (.Constant (.str x) k pos) env) Q E (mk s h tk) := wpAny_Constant_str (hq _ _)
theorem cNone {K : Model} {k : Nat} {pos : Pos} {s : Shared} {Q : Value → Shared → Prop} (hq : Q .none s) : wpAny K A (eval (.Constant .none k pos) env) Q E s := wpAny_Constant_none hq

/-- the method append -/
theorem getApp {l : Addr} {vs : List Value} {pl : Sem Bool} {Q : Value × List Value → Shared → Prop} (hl : h.PlainList l vs.toArray) (hq : Q (.builtin "list.append", [.ref l]) (mk s h tk)) :
    wpAny (model prog w) A (getMethod (.ref l) "append" pl) Q E (mk s h tk) := by
  obtain ⟨n, e⟩ := id hl
  exact getMethod_list_of (s := mk s h tk) PySem.F.slot_list_append PySem.F.type_list_append hl.isList ⟨_, e, rfl⟩ hq

theorem foldl_rep (x : Value) : ∀ (n : Nat) (acc : Array Value), List.foldl (fun x1 x2 => x1 ++ x2) acc (List.replicate n #[x]) = acc ++ (List.replicate n x).toArray
  | 0, acc => by simp
  | n + 1, acc => by rw [List.replicate_succ, List.foldl_cons, foldl_rep x n]; apply Array.ext'; simp [List.replicate_succ]

theorem mulRaw {l : Addr} {items : Array Value} {k : Nat} {x : Int} {u : Tok} {s : Shared} {Q : Value → Shared → Prop}
    (hl : s.heap.get? l = some { cls := .type "list", dict := none, data := .seq items k, slots := #[] })
    (hlo : -(2 ^ 63 : Int) ≤ x) (hhi : x < 2 ^ 63) (hsz : items.size * x.toNat ≤ 2 ^ 24)
    (h : Q (.ref s.heap.objs.size) { s with heap := s.heap.push { cls := .type "list", data := .seq (List.foldl (fun x1 x2 => x1 ++ x2) #[] (List.replicate (if items.isEmpty = true then 0 else x.toNat) items)) } }) :
    wpAny (model prog w) A (binaryOp .Mult (.ref l) (.int x u)) Q E s :=
  wpAny_binaryOp_repeat_ref (T := "list") (U := "int") (by decide) ⟨_, hl, rfl⟩ (fun s' => typeIs_int s' x u) noFill_list_mul F.fills_int_mul F.slot_int_rmul repeat_list F.slot_int_index.lookup
    (call_meets F.slot_int_rmul (typeIs_int s x u) F.entry_int_rmul (F.args_int_rmul_2 _ _) (int___rmul___int_list x u l items k)
      ⟨hl, rfl, ⟨_, hl, rfl⟩, call_meets F.slot_list_mul ⟨_, hl, rfl⟩ F.entry_list_mul (F.args_list_mul_2 _ _)
        (AutoListH.list___mul___list_int_3 l items k x u (by simp [Builtin.List.listFitsIndex]; omega) (by omega) (by simp [Builtin.List.listTooLong, sizeLine]; omega))
        ⟨hl, h⟩⟩)

/-- «[x] * n»: a list of one's own -/
theorem mulList {l : Addr} {n : Nat} {u : Tok} {Q : Value → Shared → Prop} (S : Fm W B₀ h₀ own env B m ps h) (hl : h.PlainList l #[v]) (hn : n ≤ 1000)
    (hq : ∀ h' D, h.get? D = none → Fm W B₀ h₀ own env B m ((D, LstP (List.replicate n v)) :: ps) h' → Q (.ref D) (mk s h' tk)) :
    wpAny (model prog w) A (binaryOp .Mult (.ref l) (.int n u)) Q E (mk s h tk) := by
  obtain ⟨k, e⟩ := hl
  have e2 : List.foldl (fun x1 x2 => x1 ++ x2) #[] (List.replicate (if (#[v] : Array Value).isEmpty = true then 0 else ((n : Int)).toNat) #[v]) = (List.replicate n v).toArray := by
    rw [if_neg (by simp), Int.toNat_natCast, foldl_rep]; simp
  refine mulRaw (s := mk s h tk) e (by omega) (by omega) (by rw [Int.toNat_natCast]; show 1 * n ≤ 16777216; omega) ?_
  rw [e2]
  exact hq _ _ newAt (S.push newAt (fun b o e => Heap.get?_push_of_some _ e) (Heap.get?_push_size _ rfl) ⟨0, rfl⟩)

/-- a list joined with one, of the base -/
theorem addList {l b : Addr} {vs ws : List Value} {Q : Value → Shared → Prop} (S : Fm W B₀ h₀ own env B m ps h) (hl : h.PlainList l vs.toArray) (hb : h.PlainList b ws.toArray) (hz : vs.length + ws.length ≤ 1000)
    (hq : ∀ B' h' D c, B.le B' → B' D = some (lstO (vs ++ ws) c) → Fm W B₀ h₀ own env B' m ps h' → Q (.ref D) (mk s h' tk)) :
    wpAny (model prog w) A (binaryOp .Add (.ref l) (.ref b)) Q E (mk s h tk) := by
  obtain ⟨n, e⟩ := hl
  obtain ⟨n', e'⟩ := hb
  refine PySem.P.add_list (s := mk s h tk) (items := vs.toArray) (items2 := ws.toArray) e e' ?_ (by simp; exact Nat.le_trans hz (fits (Nat.le_refl _)))
  have e3 : vs.toArray ++ ws.toArray = (vs ++ ws).toArray := by simp
  rw [e3]
  have k : ∀ b o, h.get? b = some o → (h.push (lstO (vs ++ ws) 0)).get? b = some o := fun b o e => Heap.get?_push_of_some _ e
  obtain ⟨B', X, e⟩ := Ext.alloc (a := h.objs.size) (o := lstO (vs ++ ws) 0) S.sub newAt k (Heap.get?_push_size _ rfl)
  exact hq B' _ _ 0 X.le e (S.ext X)

/-- «a[:n]» -/
theorem sliceL {value : Expr} {upper : Expr} {p pos : Pos} {Q : Value → Shared → Prop} 
    (hq : wpAny (model prog w) A (eval value env) (fun o s₁ => wpAny (model prog w) A (eval upper env) (fun vu s₂ => ∃ l items n t h tk, s₂ = mk s h tk ∧ o = .ref l ∧ vu = .int (n : Nat) t ∧ h.PlainList l (items : List Value).toArray ∧ items.length ≤ 1000 ∧
      ∃ (W : List Addr) (B₀ : Base) (h₀ : Heap) (own : List Addr) (B : Base) (ps : List Ent) (m : Str → Option Value), Fm W B₀ h₀ own env B m ps h ∧ ∀ B' h' D c, B.le B' → B' D = some (lstO (items.take n) c) → Fm W B₀ h₀ own env B' m ps h' → Q (.ref D) (mk s h' tk)) E s₁) E (mk s h tk))
    (ht : ∀ o r, letTemporaryGo value o r = pure () := by intro _ _; rfl) :
    wpAny (model prog w) A (eval (.Subscript value (.Slice none (some upper) none p) pos) env) Q E (mk s h tk) := by
  refine wpAny_Subscript_list_slice (wpAny_mono hq (fun o s₁ h₁ => evalPart_none_step (wpAny_mono h₁ (fun vu s₂ h₂ => ?_) fun _ _ e => e)) fun _ _ e => e) ht
  obtain ⟨l, items, n, t, h, tk, rfl, rfl, rfl, hl, hz, W, B₀, h₀, own, B, ps, m, S, hq⟩ := h₂
  refine ⟨l, items.toArray, none, some (n : Int), rfl, hl.isList, by rw [List.size_toArray]; exact fits hz, .none, .int _ _, ?_⟩
  rw [slicePick_upto']
  have k1 : ∀ b o, h.get? b = some o → (h.push { cls := .type "slice", data := .fields #[.none, .int (n : Int) t, .none] }).get? b = some o := fun b o e => Heap.get?_push_of_some _ e
  have S1 := S.ext (Ext.keeps S.sub k1)
  have k2 : ∀ b o, (h.push { cls := .type "slice", data := .fields #[.none, .int (n : Int) t, .none] }).get? b = some o → ((h.push { cls := .type "slice", data := .fields #[.none, .int (n : Int) t, .none] }).push (lstO (items.take n) 0)).get? b = some o := fun b o e => Heap.get?_push_of_some _ e
  obtain ⟨B', X, e⟩ := Ext.alloc (o := lstO (items.take n) 0) S1.sub newAt k2 (Heap.get?_push_size _ rfl)
  rw [Heap.size_push] at e
  exact hq B' _ _ 0 X.le e (S1.ext X)
end
local macro_rules | `(tactic| walk_at "eval Name") => `(tactic| first
  | (refine' ldL ?S ?v ?_; (case S => assumption); (case v => exact rfl))
  | (refine' ldC ?S ?v ?_; (case S => assumption); (case v => exact rfl))
  | (refine' ldG ?S ?T ?e ?_; (case S => assumption); (case T => assumption); (case e => k_dflt k_is))
  | (refine' ldB ?S ?T ?e ?b ?n ?_; (case S => assumption); (case T => assumption); (case e => k_dflt k_is); (case b => boot_by_name); (case n => decide)))
local macro_rules | `(tactic| walk_at "storeName") => `(tactic| first
  | (refine' st_L ?S ?o ?_; (case S => assumption); (case o => exact List.mem_cons_self ..))
  | (refine' st_C' ?S ?_; (case S => assumption)))
local macro_rules | `(tactic| walk_at "call the def") => `(tactic| (
  (case hf => k_dflt k_is); (case hcd => k_dflt k_is); (case hroom => (have hR := Room.depth (by assumption); omega)); (case hbind => exact rfl); (case hkind => exact kindsX rfl)
  (case hcn => decide +kernel); (case hco => exact rfl); (case hgen => exact rfl); (case hk => exact rfl)))
local macro_rules | `(tactic| walk_at "no things") => `(tactic| ((case he => exact fun p hp => by cases hp); (case hB => exact fun p hp => by cases hp)))
local macro_rules | `(tactic| walk_at "cells known") => `(tactic| (repeat' (first | exact List.forall_mem_nil _ | refine List.forall_mem_cons.mpr ⟨⟨rfl, rfl, rfl⟩, ?_⟩)))
local macro_rules | `(tactic| walk_at "N") => `(tactic| first
  | (refine' ldL ?S ?v ?_; (case S => assumption); (case v => exact rfl))
  | (refine' ldC ?S ?v ?_; (case S => assumption); (case v => exact rfl))
  | (refine' ldG ?S ?T ?e ?_; (case S => assumption); (case T => assumption); (case e => k_dflt k_is))
  | (refine' ldB ?S ?T ?e ?b ?n ?_; (case S => assumption); (case T => assumption); (case e => k_dflt k_is); (case b => boot_by_name); (case n => decide)))
local macro_rules | `(tactic| walk_at "known") => `(tactic| (repeat' (first | exact List.forall_mem_nil _ | refine List.forall_mem_cons.mpr ⟨rfl, ?_⟩)))
local macro_rules | `(tactic| walk_at "comp") => `(tactic| ((case hk => rfl); (case hn => decide); (case hcl => rfl); (case hs => exact fun _ => rfl); (case hsw => rfl)))
theorem dummy_fill : (fun (_ : OpenLaw) (_ : Params → Frag) => True) PySem.Challenge.rw_xm0080_01 Mine.hd.heap_39 := by
  k_fill
  trivial
section
variable {prog : Program} {w : World} {A : Around} {E : Value → Shared → Prop} {s : Shared} {h : Heap} {tk : Nat} {B : Base} {Q : Value → Shared → Prop}

theorem rneg_ok (T : Tp (Mine.hd.heap_39 w.params) B) (sub : B.In h) (R : Room 1 A) {q : Rat} {v : Value} (hv : RatV B q v)
    (hq : ∀ B' h' tk' v', Ext B h B' h' → RatV B' (-q) v' → Q v' (mk s h' tk')) :
    wpAny (model prog w) A (call (.ref 78) [v]) Q E (mk s h tk) := by
  obtain ⟨t, n, x, y, rfl, ht⟩ := hv
  refine' enter (binds := [("a", .ref t)]) [] T sub ?he .nil ?hB ?hf ?hcd ?hroom ?hbind ?hkind ?hh ?hcn ?hco ?hgen ?hk
  walk_at "no things"
  walk_at "call the def"
  intro L h₁ tk₁ hL S
  refine wpAny_execs_cons (wpAny_Return_some (Tuple_ (args_cons (wpAny_BinOp (cI fun t0 tk₂ => Subscript_ ?_)))))
  walk_at "eval Name"
  refine cI fun _ tk₃ => (itemT S ht (by decide) (by decide) rfl ?_)
  refine subI fun _ tk₄ => (args_cons (Subscript_ ?_))
  walk_at "eval Name"
  refine cI fun _ tk₅ => (itemT S ht (by decide) (by decide) rfl (args_nil ?_))
  refine mkTup S fun B' h1 t' le et S' => ?_
  exact hq B' h1 _ _ S'.toExt (.mk et (by rw [Rat.neg_num, Int.zero_sub]) (by rw [Rat.neg_den]))

theorem gcd_step (x y : Int) : Int.gcd y (x % y) = Int.gcd x y := by
  rw [Int.emod_def, Int.gcd_sub_mul_left_right, Int.gcd_comm]

theorem gcd_ok (T : Tp (Mine.hd.heap_39 w.params) B) (sub : B.In h) (R : Room 1 A) {a b : Int} {t u : Tok}
    (hq : ∀ B' h' tk' t', Ext B h B' h' → Q (.int (Int.gcd a b) t') (mk s h' tk')) :
    wpAny (model prog w) A (call (.ref 41) [.int a t, .int b u]) Q E (mk s h tk) := by
  refine' enter (binds := [("a", .int a t), ("b", .int b u)]) [] T sub ?he .nil ?hB ?hf ?hcd ?hroom ?hbind ?hkind ?hh ?hcn ?hco ?hgen ?hk
  walk_at "no things"
  walk_at "call the def"
  intro L h₁ tk₁ hL S
  refine wpAny_execs_cons ?_
  refine Assign_Tuple_swapped (names := ["a", "b"]) (Tuple_ (args_cons (Call_ ?_)))
  walk_at "eval Name"
  refine callWith_builtin1 (args_cons ?_)
  walk_at "eval Name"
  refine args_nil (absI fun _ tk₂ => (args_cons (Call_ ?_)))
  walk_at "eval Name"
  refine callWith_builtin1 (args_cons ?_)
  walk_at "eval Name"
  refine args_nil (absI fun _ tk₃ => (args_nil ?_))
  refine mkTup S fun B₁ h₂ t' le et S₁ => ?_
  refine unpk R.quiet S₁ et rfl fun h₃ S₂ => ?_
  refine assignInOrder_cons (wpAny_bindName ?_)
  walk_at "storeName"
  intro h₄ tk₄ S₃
  refine assignInOrder_cons (wpAny_bindName ?_)
  walk_at "storeName"
  intro h₅ tk₅ S₄
  refine assignInOrder_nil ?_
  refine wpAny_execs_cons (wpAny_While ?_)
  refine codeAny_whileLoop (fun n s' => ∃ (x y : Int) (tx ty : Tok) (B' : Base) (m' : Str → Option Value) (h' : Heap) (tk' : Nat), s' = mk s h' tk' ∧ Int.gcd x y = Int.gcd a b ∧ 0 ≤ x ∧ 0 ≤ y ∧ n = y.toNat ∧
    m' "a" = some (.int x tx) ∧ m' "b" = some (.int y ty) ∧ Fm [] B h _ _ B' m' [] h') ?_ (b.natAbs) ⟨_, _, _, _, _, _, _, _, rfl, ?_, ?_, ?_, ?_, rfl, rfl, S₄⟩
  · rintro n s' ⟨x, y, tx, ty, B', m', h', tk', rfl, hg, hx, hy, rfl, ma, mb, S⟩
    refine wpAny_isTrue_Compare1 (ldL S mb (cI fun _ tk₂ => PyProof.Rows.ne_int (wpAny_truthy_bool ?_)))
    by_cases h0 : y = 0
    · subst h0
      simp only [bne_self_eq_false, Bool.false_eq_true, if_false]
      refine wpAny_execs_nil ?_
      refine wpAny_execs_cons (wpAny_Return_some (ldL S ma ?_))
      have e : (Int.gcd a b : Int) = x := by rw [← hg, Int.gcd_zero_right]; omega
      have q := hq B' h' tk₂ tx S.toExt
      rw [e] at q
      exact q
    · have hb : (y != 0) = true := by simpa using h0
      rw [if_pos hb]
      refine wpAny_execs_cons ?_
      refine Assign_Tuple_swapped (names := ["a", "b"]) (Tuple_ (args_cons (ldL S mb (args_cons (wpAny_BinOp (ldL S ma (ldL S mb (modI h0 fun _ tk₂ => args_nil ?_))))))))
      refine mkTup S fun B₁ h₂ t' le et S₁ => ?_
      refine unpk R.quiet S₁ et rfl fun h₃ S₂ => ?_
      refine assignInOrder_cons (wpAny_bindName ?_)
      walk_at "storeName"
      intro h₄ tk₄ S₃
      refine assignInOrder_cons (wpAny_bindName ?_)
      walk_at "storeName"
      intro h₅ tk₅ S₄
      refine assignInOrder_nil (wpAny_execs_nil ?_)
      have e : x.fmod y = x % y := Int.fmod_eq_emod_of_nonneg _ hy
      have h1 : 0 ≤ x % y := Int.emod_nonneg _ h0
      have h2 : x % y < y := Int.emod_lt_of_pos _ (by omega)
      refine ⟨(x.fmod y).toNat, by rw [e]; omega, y, x.fmod y, _, _, B₁, _, h₅, tk₅, rfl, ?_, hy, by rw [e]; exact h1, rfl, rfl, rfl, S₄⟩
      rw [e, ← hg]; exact gcd_step x y
  · simp [Int.gcd]
  · omega
  · omega
  · simp

theorem divInt_pos {a b : Int} (hb : 0 < b) : (Rat.divInt a b).num = a.fdiv (Int.gcd a b) ∧ ((Rat.divInt a b).den : Int) = b.fdiv (Int.gcd a b) := by
  have h1 : (Int.gcd a b : Int) ∣ a := Int.gcd_dvd_left ..
  have h2 : (Int.gcd a b : Int) ∣ b := Int.gcd_dvd_right ..
  rw [Rat.num_divInt, Rat.den_divInt, Int.fdiv_eq_ediv_of_dvd h1, Int.fdiv_eq_ediv_of_dvd h2, Int.sign_eq_one_of_pos hb, Int.one_mul, Int.gcd_comm b a, if_neg (by omega)]
  refine ⟨rfl, ?_⟩
  rw [Int.natCast_ediv, Int.natAbs_of_nonneg (by omega)]
theorem divInt_negd {a b : Int} (hb : b < 0) : (Rat.divInt a b).num = a.fdiv (0 - Int.gcd a b) ∧ ((Rat.divInt a b).den : Int) = b.fdiv (0 - Int.gcd a b) := by
  have h1 : (0 - Int.gcd a b : Int) ∣ a := by rw [Int.zero_sub]; exact Int.neg_dvd.mpr (Int.gcd_dvd_left ..)
  have h2 : (0 - Int.gcd a b : Int) ∣ b := by rw [Int.zero_sub]; exact Int.neg_dvd.mpr (Int.gcd_dvd_right ..)
  rw [Rat.num_divInt, Rat.den_divInt, Int.fdiv_eq_ediv_of_dvd h1, Int.fdiv_eq_ediv_of_dvd h2, Int.sign_eq_neg_one_of_neg hb, Int.gcd_comm b a, if_neg (by omega), Int.zero_sub, Int.ediv_neg, Int.ediv_neg]
  have h3 : (Int.gcd a b : Int) ∣ a := Int.gcd_dvd_left ..
  have h4 : (Int.gcd a b : Int) ∣ b := Int.gcd_dvd_right ..
  refine ⟨?_, ?_⟩
  · rw [Int.neg_mul, Int.one_mul, Int.neg_ediv_of_dvd h3]
  · rw [Int.natCast_ediv, show (b.natAbs : Int) = -b by omega, Int.neg_ediv_of_dvd h4]

theorem gcd_pos_of {a b : Int} (hb : b ≠ 0) : 0 < Int.gcd a b := Int.gcd_pos_of_ne_zero_right _ hb
theorem gcd_le_of {a b : Int} (hb : b ≠ 0) : Int.gcd a b ≤ b.natAbs := Nat.le_of_dvd (by omega) (Nat.gcd_dvd_right ..)

theorem rat_ok (T : Tp (Mine.hd.heap_39 w.params) B) (sub : B.In h) (R : Room 2 A) {a b : Int} {t u : Tok} {k : Nat} (hb : b ≠ 0) (sb : Sm k b) (hk : k ≤ 9000)
    (hq : ∀ B' h' tk' v', Ext B h B' h' → RatV B' (Rat.divInt a b) v' → Q v' (mk s h' tk')) :
    wpAny (model prog w) A (call (.ref 50) [.int a t, .int b u]) Q E (mk s h tk) := by
  refine' enter (binds := [("top", .int a t), ("bottom", .int b u)]) [] T sub ?he .nil ?hB ?hf ?hcd ?hroom ?hbind ?hkind ?hh ?hcn ?hco ?hgen ?hk
  walk_at "no things"
  walk_at "call the def"
  intro L h₁ tk₁ hL S
  refine wpAny_execs_cons (wpAny_If (wpAny_isTrue_Compare1 ?_))
  walk_at "eval Name"
  refine cI fun _ tk₂ => PyProof.Rows.eq_int (wpAny_truthy_bool ?_)
  rw [if_neg (by simpa using hb)]
  refine wpAny_execs_nil (wpAny_execs_cons (wpAny_Assign_Name (IfExp_ (wpAny_isTrue_Compare1 ?_))))
  walk_at "eval Name"
  refine cI fun _ tk₃ => PyProof.Rows.gt_int (wpAny_truthy_bool ?_)
  have gp := gcd_pos_of (a := a) hb
  have gl := gcd_le_of (a := a) hb
  by_cases hp : 0 < b
  · rw [if_pos (by simpa using hp)]
    refine Call_ ?_
    walk_at "eval Name"
    refine callF T (by k_dflt k_is) (args_cons ?_)
    walk_at "eval Name"
    refine args_cons ?_
    walk_at "eval Name"
    refine args_nil ⟨S.sub.of_le S.mono, ?_⟩
    refine gcd_ok (T.le S.mono) S.sub (R.deeper _) fun B₁ h₂ tk₄ t₁ X => ?_
    have S₁ := S.ext X
    walk_at "storeName"
    intro h₃ tk₅ S₂
    refine wpAny_execs_cons (wpAny_Return_some (Tuple_ (args_cons (wpAny_BinOp ?_))))
    walk_at "eval Name"
    walk_at "eval Name"
    refine divI (k := k) (by omega) (by unfold Sm at *; omega) hk fun _ tk₆ => args_cons (wpAny_BinOp ?_)
    walk_at "eval Name"
    walk_at "eval Name"
    refine divI (k := k) (by omega) (by unfold Sm at *; omega) hk fun _ tk₇ => args_nil ?_
    refine mkTup S₂ fun B₂ h₄ t' le et S₃ => ?_
    exact hq _ _ _ _ S₃.toExt (.mk et (divInt_pos hp).1 (divInt_pos hp).2)
  · rw [if_neg (by simpa using hp)]
    refine wpAny_BinOp (cI fun _ tk₄ => Call_ ?_)
    walk_at "eval Name"
    refine callF T (by k_dflt k_is) (args_cons ?_)
    walk_at "eval Name"
    refine args_cons ?_
    walk_at "eval Name"
    refine args_nil ⟨S.sub.of_le S.mono, ?_⟩
    refine gcd_ok (T.le S.mono) S.sub (R.deeper _) fun B₁ h₂ tk₄ t₁ X => ?_
    have S₁ := S.ext X
    refine subI fun _ tk₅ => ?_
    walk_at "storeName"
    intro h₃ tk₅ S₂
    refine wpAny_execs_cons (wpAny_Return_some (Tuple_ (args_cons (wpAny_BinOp ?_))))
    walk_at "eval Name"
    walk_at "eval Name"
    refine divI (k := k) (by omega) (by unfold Sm at *; omega) hk fun _ tk₆ => args_cons (wpAny_BinOp ?_)
    walk_at "eval Name"
    walk_at "eval Name"
    refine divI (k := k) (by omega) (by unfold Sm at *; omega) hk fun _ tk₇ => args_nil ?_
    refine mkTup S₂ fun B₂ h₄ t' le et S₃ => ?_
    have hn : b < 0 := by omega
    exact hq _ _ _ _ S₃.toExt (.mk et (divInt_negd hn).1 (divInt_negd hn).2)

/-- so many bits above and below -/
def RatB (k : Nat) (r : Rat) : Prop := Sm k r.num ∧ Sm k r.den
theorem RatB.le {k l : Nat} {r : Rat} (x : RatB k r) (h : k ≤ l) : RatB l r := ⟨x.1.le h, x.2.le h⟩
theorem ratB_divInt {k : Nat} {a b : Int} (ha : Sm k a) (hb : Sm k b) (h0 : b ≠ 0) : RatB k (Rat.divInt a b) := by
  unfold RatB Sm at *
  rw [Rat.num_divInt, Rat.den_divInt, if_neg h0]
  constructor
  · refine Nat.lt_of_le_of_lt ?_ ha
    rw [Int.natAbs_ediv_of_dvd]
    · refine Nat.le_trans (Nat.div_le_self _ _) ?_
      rw [Int.natAbs_mul]
      rcases Int.lt_trichotomy b 0 with h | h | h
      · rw [Int.sign_eq_neg_one_of_neg h]; simp
      · exact absurd h h0
      · rw [Int.sign_eq_one_of_pos h]; simp
    · exact Int.dvd_mul_of_dvd_right (Int.gcd_dvd_right ..)
  · refine Nat.lt_of_le_of_lt ?_ hb
    rw [Int.natAbs_natCast]
    exact Nat.div_le_self _ _

theorem den_ne (r : Rat) : (r.den : Int) ≠ 0 := by have := r.den_nz; omega
theorem rsub_eq (a b : Rat) : Rat.divInt (a.num * b.den - b.num * a.den) (a.den * b.den) = a - b := by
  rw [← Rat.divInt_sub_divInt _ _ (den_ne a) (den_ne b), Rat.num_divInt_den, Rat.num_divInt_den]
theorem rmul_eq (a b : Rat) : Rat.divInt (a.num * b.num) (a.den * b.den) = a * b := by
  rw [← Rat.divInt_mul_divInt, Rat.num_divInt_den, Rat.num_divInt_den]
theorem rdiv_eq (a b : Rat) : Rat.divInt (a.num * b.den) (a.den * b.num) = a / b := by
  have e : Rat.divInt b.den b.num = b⁻¹ := by
    have := Rat.inv_divInt b.num b.den
    rw [Rat.num_divInt_den] at this
    exact this.symm
  rw [Rat.div_def, ← Rat.divInt_mul_divInt, Rat.num_divInt_den, e]
theorem num_ne {r : Rat} (h : r ≠ 0) : r.num ≠ 0 := fun e => h (Rat.num_eq_zero.mp e)

theorem rsub_B {a b : Rat} {k l n : Nat} (ha : RatB k a) (hb : RatB l b) (h : k + l < n) : RatB n (a - b) := by
  rw [← rsub_eq]
  refine ratB_divInt ((ha.1.mul hb.2).sub (hb.1.mul ha.2) h (by omega)) ((ha.2.mul hb.2).le (by omega)) (Int.mul_ne_zero (den_ne a) (den_ne b))
theorem rmul_B {a b : Rat} {k l : Nat} (ha : RatB k a) (hb : RatB l b) : RatB (k + l) (a * b) := by
  rw [← rmul_eq]
  exact ratB_divInt (ha.1.mul hb.1) (ha.2.mul hb.2) (Int.mul_ne_zero (den_ne a) (den_ne b))
theorem rdiv_B {a b : Rat} {k l : Nat} (ha : RatB k a) (hb : RatB l b) (h0 : b ≠ 0) : RatB (k + l) (a / b) := by
  rw [← rdiv_eq]
  exact ratB_divInt (ha.1.mul hb.2) (ha.2.mul hb.1) (Int.mul_ne_zero (den_ne a) (num_ne h0))
theorem rneg_B {a : Rat} {k : Nat} (ha : RatB k a) : RatB k (-a) := ⟨by rw [Rat.neg_num]; exact ha.1.neg, by rw [Rat.neg_den]; exact ha.2⟩

theorem rsub_ok (T : Tp (Mine.hd.heap_39 w.params) B) (sub : B.In h) (R : Room 3 A) {a b : Rat} {u v : Value} {k l : Nat} (hu : RatV B a u) (hv : RatV B b v) (ba : RatB k a) (bb : RatB l b) (hk : k + l ≤ 9000)
    (hq : ∀ B' h' tk' v', Ext B h B' h' → RatV B' (a - b) v' → Q v' (mk s h' tk')) :
    wpAny (model prog w) A (call (.ref 57) [u, v]) Q E (mk s h tk) := by
  obtain ⟨t, n, x, y, rfl, ht⟩ := hu
  obtain ⟨t2, n2, x2, y2, rfl, ht2⟩ := hv
  refine' enter (binds := [("a", .ref t), ("b", .ref t2)]) [] T sub ?he .nil ?hB ?hf ?hcd ?hroom ?hbind ?hkind ?hh ?hcn ?hco ?hgen ?hk
  walk_at "no things"
  walk_at "call the def"
  intro L h₁ tk₁ hL S
  refine wpAny_execs_cons (wpAny_Return_some (Call_ ?_))
  walk_at "eval Name"
  refine callF T (by k_dflt k_is) (args_cons (wpAny_BinOp (wpAny_BinOp (Subscript_ ?_))))
  walk_at "eval Name"
  refine cI fun _ _ => itemT S ht (by decide) (by decide) rfl (Subscript_ ?_)
  walk_at "eval Name"
  refine cI fun _ _ => itemT S ht2 (by decide) (by decide) rfl (mulI ba.1 bb.2 (by omega) (by omega) fun _ _ => wpAny_BinOp (Subscript_ ?_))
  walk_at "eval Name"
  refine cI fun _ _ => itemT S ht2 (by decide) (by decide) rfl (Subscript_ ?_)
  walk_at "eval Name"
  refine cI fun _ _ => itemT S ht (by decide) (by decide) rfl (mulI bb.1 ba.2 (by omega) (by omega) fun _ _ => subI fun _ _ => args_cons (wpAny_BinOp (Subscript_ ?_)))
  walk_at "eval Name"
  refine cI fun _ _ => itemT S ht (by decide) (by decide) rfl (Subscript_ ?_)
  walk_at "eval Name"
  refine cI fun _ _ => itemT S ht2 (by decide) (by decide) rfl (mulI ba.2 bb.2 (by omega) (by omega) fun _ _ => args_nil ⟨S.sub.of_le S.mono, ?_⟩)
  refine rat_ok (T.le S.mono) S.sub (R.deeper _) (Int.mul_ne_zero (den_ne a) (den_ne b)) (ba.2.mul bb.2) hk fun B₁ h₂ tk₂ v' X hv' => ?_
  exact hq _ _ _ _ (S.ext X).toExt (rsub_eq a b ▸ hv')

theorem rmul_ok (T : Tp (Mine.hd.heap_39 w.params) B) (sub : B.In h) (R : Room 3 A) {a b : Rat} {u v : Value} {k l : Nat} (hu : RatV B a u) (hv : RatV B b v) (ba : RatB k a) (bb : RatB l b) (hk : k + l ≤ 9000)
    (hq : ∀ B' h' tk' v', Ext B h B' h' → RatV B' (a * b) v' → Q v' (mk s h' tk')) :
    wpAny (model prog w) A (call (.ref 64) [u, v]) Q E (mk s h tk) := by
  obtain ⟨t, n, x, y, rfl, ht⟩ := hu
  obtain ⟨t2, n2, x2, y2, rfl, ht2⟩ := hv
  refine' enter (binds := [("a", .ref t), ("b", .ref t2)]) [] T sub ?he .nil ?hB ?hf ?hcd ?hroom ?hbind ?hkind ?hh ?hcn ?hco ?hgen ?hk
  walk_at "no things"
  walk_at "call the def"
  intro L h₁ tk₁ hL S
  refine wpAny_execs_cons (wpAny_Return_some (Call_ ?_))
  walk_at "eval Name"
  refine callF T (by k_dflt k_is) (args_cons (wpAny_BinOp (Subscript_ ?_)))
  walk_at "eval Name"
  refine cI fun _ _ => itemT S ht (by decide) (by decide) rfl (Subscript_ ?_)
  walk_at "eval Name"
  refine cI fun _ _ => itemT S ht2 (by decide) (by decide) rfl (mulI ba.1 bb.1 (by omega) (by omega) fun _ _ => args_cons (wpAny_BinOp (Subscript_ ?_)))
  walk_at "eval Name"
  refine cI fun _ _ => itemT S ht (by decide) (by decide) rfl (Subscript_ ?_)
  walk_at "eval Name"
  refine cI fun _ _ => itemT S ht2 (by decide) (by decide) rfl (mulI ba.2 bb.2 (by omega) (by omega) fun _ _ => args_nil ⟨S.sub.of_le S.mono, ?_⟩)
  refine rat_ok (T.le S.mono) S.sub (R.deeper _) (Int.mul_ne_zero (den_ne a) (den_ne b)) (ba.2.mul bb.2) hk fun B₁ h₂ tk₂ v' X hv' => ?_
  exact hq _ _ _ _ (S.ext X).toExt (rmul_eq a b ▸ hv')

theorem rdiv_ok (T : Tp (Mine.hd.heap_39 w.params) B) (sub : B.In h) (R : Room 3 A) {a b : Rat} {u v : Value} {k l : Nat} (hu : RatV B a u) (hv : RatV B b v) (ba : RatB k a) (bb : RatB l b) (hk : k + l ≤ 9000) (h0 : b ≠ 0)
    (hq : ∀ B' h' tk' v', Ext B h B' h' → RatV B' (a / b) v' → Q v' (mk s h' tk')) :
    wpAny (model prog w) A (call (.ref 71) [u, v]) Q E (mk s h tk) := by
  obtain ⟨t, n, x, y, rfl, ht⟩ := hu
  obtain ⟨t2, n2, x2, y2, rfl, ht2⟩ := hv
  refine' enter (binds := [("a", .ref t), ("b", .ref t2)]) [] T sub ?he .nil ?hB ?hf ?hcd ?hroom ?hbind ?hkind ?hh ?hcn ?hco ?hgen ?hk
  walk_at "no things"
  walk_at "call the def"
  intro L h₁ tk₁ hL S
  refine wpAny_execs_cons (wpAny_Return_some (Call_ ?_))
  walk_at "eval Name"
  refine callF T (by k_dflt k_is) (args_cons (wpAny_BinOp (Subscript_ ?_)))
  walk_at "eval Name"
  refine cI fun _ _ => itemT S ht (by decide) (by decide) rfl (Subscript_ ?_)
  walk_at "eval Name"
  refine cI fun _ _ => itemT S ht2 (by decide) (by decide) rfl (mulI ba.1 bb.2 (by omega) (by omega) fun _ _ => args_cons (wpAny_BinOp (Subscript_ ?_)))
  walk_at "eval Name"
  refine cI fun _ _ => itemT S ht (by decide) (by decide) rfl (Subscript_ ?_)
  walk_at "eval Name"
  refine cI fun _ _ => itemT S ht2 (by decide) (by decide) rfl (mulI ba.2 bb.1 (by omega) (by omega) fun _ _ => args_nil ⟨S.sub.of_le S.mono, ?_⟩)
  refine rat_ok (T.le S.mono) S.sub (R.deeper _) (Int.mul_ne_zero (den_ne a) (num_ne h0)) (ba.2.mul bb.1) hk fun B₁ h₂ tk₂ v' X hv' => ?_
  exact hq _ _ _ _ (S.ext X).toExt (rdiv_eq a b ▸ hv')
end
/-! the mirror of echelon, plain -/
def spot (F : List (List Rat)) (c row : Nat) : List Nat := (List.range' row (F.length - row)).filter fun i => decide ((F.getD i []).getD c 0 ≠ 0)
def swp (i j : Nat) (F : List (List Rat)) : List (List Rat) := (F.set i (F.getD j [])).set j (F.getD i [])
def scale (row c : Nat) (F : List (List Rat)) : List (List Rat) := F.set row ((F.getD row []).map fun x => x / (F.getD row []).getD c 0)
def elimTo (n row c : Nat) (F : List (List Rat)) : List (List Rat) := F.mapIdx fun o r => if o < n ∧ o ≠ row then rowSub (r.getD c 0) r (F.getD row []) else r
def elim (row c : Nat) (F : List (List Rat)) : List (List Rat) := elimTo F.length row c F
def echStep (st : List (List Rat) × List Nat) (c : Nat) : List (List Rat) × List Nat :=
  match (spot st.1 c st.2.length).head? with
  | none => st
  | some p => (elim st.2.length c (scale st.2.length c (swp st.2.length p st.1)), st.2 ++ [c])
def echTo (M : List (List Rat)) (n : Nat) : List (List Rat) × List Nat := (List.range n).foldl echStep (M, [])
def ech (M : List (List Rat)) : List (List Rat) × List Nat := echTo M (wd M)
theorem echTo_succ (M : List (List Rat)) (n : Nat) : echTo M (n + 1) = echStep (echTo M n) n := by
  unfold echTo; rw [List.range_succ, List.foldl_append]; rfl

def Rect (n w : Nat) (F : List (List Rat)) : Prop := F.length = n ∧ ∀ r ∈ F, r.length = w
def Bnd (k : Nat) (F : List (List Rat)) : Prop := ∀ r ∈ F, ∀ x ∈ r, RatB k x

theorem getD_mem {α : Type} {F : List α} {d : α} {i : Nat} (h : i < F.length) : F.getD i d ∈ F := by
  rw [List.getD_eq_getElem?_getD, List.getElem?_eq_getElem h]; exact List.getElem_mem h
theorem getD_eq {α : Type} {F : List α} {d x : α} {i : Nat} (h : F[i]? = some x) : F.getD i d = x := by
  rw [List.getD_eq_getElem?_getD, h]; rfl
theorem get_getD {α : Type} {F : List α} (d : α) {i : Nat} (h : i < F.length) : F[i]? = some (F.getD i d) := by
  rw [List.getD_eq_getElem?_getD, List.getElem?_eq_getElem h]; rfl
theorem Rect.row {n w : Nat} {F : List (List Rat)} (R : Rect n w F) {i : Nat} (h : i < n) : (F.getD i []).length = w := R.2 _ (getD_mem (R.1 ▸ h))

theorem Rect.set {n w : Nat} {F : List (List Rat)} (R : Rect n w F) {i : Nat} {r : List Rat} (hr : r.length = w) : Rect n w (F.set i r) :=
  ⟨by rw [List.length_set]; exact R.1, fun x hx => (List.mem_or_eq_of_mem_set hx).elim (R.2 x) fun e => e ▸ hr⟩
theorem Bnd.set {k : Nat} {F : List (List Rat)} (b : Bnd k F) {i : Nat} {r : List Rat} (hr : ∀ x ∈ r, RatB k x) : Bnd k (F.set i r) :=
  fun x hx => (List.mem_or_eq_of_mem_set hx).elim (b x) fun e => e ▸ hr
theorem Bnd.le {k l : Nat} {F : List (List Rat)} (b : Bnd k F) (h : k ≤ l) : Bnd l F := fun r hr x hx => (b r hr x hx).le h
theorem Rect.swp {n w i j : Nat} {F : List (List Rat)} (R : Rect n w F) (hi : i < n) (hj : j < n) : Rect n w (swp i j F) := (R.set (R.row hj)).set (R.row hi)
theorem Bnd.swp {k i j : Nat} {F : List (List Rat)} (b : Bnd k F) (hi : i < F.length) (hj : j < F.length) : Bnd k (swp i j F) :=
  (b.set fun x hx => b _ (getD_mem hj) x hx).set fun x hx => b _ (getD_mem hi) x hx
theorem Rect.scale {n w i c : Nat} {F : List (List Rat)} (R : Rect n w F) (hi : i < n) : Rect n w (scale i c F) := R.set (by rw [List.length_map]; exact R.row hi)

theorem rowSub_len (q : Rat) (r p : List Rat) (h : r.length = p.length) : (rowSub q r p).length = r.length := by simp [rowSub, h]
theorem rowSub_get {q x y : Rat} {r p : List Rat} {i : Nat} (hx : r[i]? = some x) (hy : p[i]? = some y) : (rowSub q r p)[i]? = some (x - q * y) := by
  rw [rowSub, List.getElem?_zipWith, hx, hy]
theorem rowSub_zero (r p : List Rat) (h : r.length = p.length) : rowSub 0 r p = r := by
  refine List.ext_getElem? fun i => ?_
  rcases Nat.lt_or_ge i r.length with h1 | h1
  · rw [rowSub_get (List.getElem?_eq_getElem h1) (List.getElem?_eq_getElem (by omega)), List.getElem?_eq_getElem h1, Rat.zero_mul, Rat.sub_eq_add_neg]
    simp [Rat.neg_zero, Rat.add_zero]
  · rw [List.getElem?_eq_none h1, List.getElem?_eq_none (by rw [rowSub_len _ _ _ h]; exact h1)]
theorem rowSub_B {q : Rat} {r p : List Rat} {k₁ k₂ k₃ n : Nat} (bq : RatB k₃ q) (br : ∀ x ∈ r, RatB k₁ x) (bp : ∀ x ∈ p, RatB k₂ x) (hn : k₁ + (k₃ + k₂) < n) : ∀ x ∈ rowSub q r p, RatB n x := by
  intro x hx
  obtain ⟨i, hi⟩ := List.mem_iff_getElem?.mp hx
  rw [rowSub, List.getElem?_zipWith] at hi
  cases h1 : r[i]? with
  | none => rw [h1] at hi; simp at hi
  | some a =>
    cases h2 : p[i]? with
    | none => rw [h1, h2] at hi; simp at hi
    | some b =>
      rw [h1, h2] at hi
      simp at hi
      rw [← hi]
      exact rsub_B (br a (List.mem_of_getElem? h1)) (rmul_B bq (bp b (List.mem_of_getElem? h2))) hn

theorem elimTo_get (n row c : Nat) (F : List (List Rat)) (i : Nat) : (elimTo n row c F)[i]? = F[i]?.map fun r => if i < n ∧ i ≠ row then rowSub (r.getD c 0) r (F.getD row []) else r := by
  rw [elimTo, List.getElem?_mapIdx]
theorem elimTo_len (n row c : Nat) (F : List (List Rat)) : (elimTo n row c F).length = F.length := by simp [elimTo]
theorem elimTo_zero (row c : Nat) (F : List (List Rat)) : elimTo 0 row c F = F := by
  refine List.ext_getElem? fun i => ?_
  rw [elimTo_get]; cases F[i]? <;> simp
theorem elimTo_row (n row c : Nat) (F : List (List Rat)) : (elimTo n row c F).getD row [] = F.getD row [] := by
  rw [List.getD_eq_getElem?_getD, List.getD_eq_getElem?_getD, elimTo_get]
  cases F[row]? <;> simp
theorem elimTo_same (n row c : Nat) (F : List (List Rat)) : (elimTo n row c F).getD n [] = F.getD n [] := by
  rw [List.getD_eq_getElem?_getD, List.getD_eq_getElem?_getD, elimTo_get]
  cases F[n]? <;> simp
/-- one turn -/
theorem elimTo_succ {n row c : Nat} {F : List (List Rat)} (hn : n ≠ row) : elimTo (n + 1) row c F = (elimTo n row c F).set n (rowSub ((F.getD n []).getD c 0) (F.getD n []) (F.getD row [])) := by
  refine List.ext_getElem? fun i => ?_
  rw [List.getElem?_set, elimTo_get, elimTo_get, elimTo_len]
  by_cases q : n = i
  · subst q
    rw [if_pos rfl]
    rcases Nat.lt_or_ge n F.length with h1 | h1
    · rw [if_pos h1, get_getD [] h1]; simp [hn]
    · rw [if_neg (by omega), List.getElem?_eq_none h1]; rfl
  · rw [if_neg q]
    cases F[i]? with
    | none => rfl
    | some r =>
      have : (i < n + 1 ∧ i ≠ row) ↔ (i < n ∧ i ≠ row) := by omega
      simp [this]
theorem elimTo_skip {n row c w m : Nat} {F : List (List Rat)} (R : Rect m w F) (hrow : row < m) (h : n = row ∨ (F.getD n []).getD c 0 = 0) : elimTo (n + 1) row c F = elimTo n row c F := by
  refine List.ext_getElem? fun i => ?_
  rw [elimTo_get, elimTo_get]
  cases e : F[i]? with
  | none => rfl
  | some r =>
    by_cases q : i = n
    · subst q
      rcases h with h | h
      · subst h; simp
      · rw [getD_eq e] at h
        have hl : r.length = (F.getD row []).length := by rw [R.row hrow]; exact R.2 r (List.mem_of_getElem? e)
        simp only [Option.map_some]
        rw [h, rowSub_zero r _ hl, ite_self, ite_self]
    · have : (i < n + 1 ∧ i ≠ row) ↔ (i < n ∧ i ≠ row) := by omega
      simp [this]
theorem Rect.elimTo {n m w row c : Nat} {F : List (List Rat)} (R : Rect m w F) (hrow : row < m) : Rect m w (elimTo n row c F) := by
  refine ⟨by rw [elimTo_len]; exact R.1, fun x hx => ?_⟩
  obtain ⟨i, hi⟩ := List.mem_iff_getElem?.mp hx
  rw [elimTo_get] at hi
  cases e : F[i]? with
  | none => rw [e] at hi; cases hi
  | some r =>
    rw [e] at hi
    have hr := R.2 r (List.mem_of_getElem? e)
    simp only [Option.map_some, Option.some.injEq] at hi
    rw [← hi]
    split
    · rw [rowSub_len _ _ _ (by rw [R.row hrow]; exact hr)]; exact hr
    · exact hr
theorem bnd_elimTo {n row c k : Nat} {F : List (List Rat)} {m w : Nat} (R : Rect m w F) (hrow : row < m) (hc : c < w) (b : ∀ o r, F[o]? = some r → o ≠ row → ∀ x ∈ r, RatB k x) (bp : ∀ x ∈ F.getD row [], RatB (2 * k) x) (hk : 0 < k) : Bnd (5 * k) (elimTo n row c F) := by
  intro x hx y hy
  obtain ⟨i, hi⟩ := List.mem_iff_getElem?.mp hx
  rw [elimTo_get] at hi
  cases e : F[i]? with
  | none => rw [e] at hi; cases hi
  | some r =>
    rw [e] at hi
    simp only [Option.map_some, Option.some.injEq] at hi
    rw [← hi] at hy
    split at hy
    · rename_i q
      have hr := R.2 r (List.mem_of_getElem? e)
      exact rowSub_B (b i r e q.2 _ (getD_mem (by omega))) (b i r e q.2) bp (by omega) y hy
    · rename_i q
      by_cases qi : i = row
      · subst qi; rw [getD_eq e] at bp; exact (bp y hy).le (by omega)
      · exact (b i r e qi y hy).le (by omega)

theorem spot_mem {F : List (List Rat)} {c row p : Nat} (h : (spot F c row).head? = some p) : row ≤ p ∧ p < F.length ∧ (F.getD p []).getD c 0 ≠ 0 := by
  have := List.mem_of_head? h
  unfold spot at this
  rw [List.mem_filter, List.mem_range'_1] at this
  obtain ⟨⟨h1, h2⟩, h3⟩ := this
  exact ⟨h1, by omega, by simpa using h3⟩
theorem spot_none {F : List (List Rat)} {c row : Nat} (h : (spot F c row).head? = none) : ∀ p, row ≤ p → p < F.length → (F.getD p []).getD c 0 = 0 := by
  intro p h1 h2
  rw [List.head?_eq_none_iff] at h
  unfold spot at h
  rw [List.filter_eq_nil_iff] at h
  have := h p (List.mem_range'_1.mpr ⟨h1, by omega⟩)
  simpa using this
def nats (l : List Nat) : List Int := l.map fun n : Nat => (n : Int)
def spotTo (F : List (List Rat)) (c row i : Nat) : List Nat := (List.range' row i).filter fun i => decide ((F.getD i []).getD c 0 ≠ 0)
theorem spotTo_succ (F : List (List Rat)) (c row i : Nat) : spotTo F c row (i + 1) = spotTo F c row i ++ if (F.getD (row + i) []).getD c 0 ≠ 0 then [row + i] else [] := by
  rw [spotTo, List.range'_1_concat, List.filter_append]
  congr 1
  by_cases h : (F.getD (row + i) []).getD c 0 = 0
  · rw [List.filter_cons_of_neg (by simpa using h), if_neg (by simpa using h)]; rfl
  · rw [List.filter_cons_of_pos (by simpa using h), if_pos h]; rfl
theorem nats_append (a b : List Nat) : nats (a ++ b) = nats a ++ nats b := List.map_append
theorem swp_row {F : List (List Rat)} {n wi row p : Nat} (R : Rect n wi F) (hr : row < n) (hp : p < n) : (swp row p F).getD row [] = F.getD p [] := by
  have h1 := R.1
  unfold swp
  rw [List.getD_eq_getElem?_getD, List.getElem?_set]
  by_cases e : p = row
  · subst e
    rw [if_pos rfl, if_pos (by rw [List.length_set]; omega)]; rfl
  · rw [if_neg e, List.getElem?_set, if_pos rfl, if_pos (by omega)]; rfl
theorem scale_row {F : List (List Rat)} {n wi row c : Nat} (R : Rect n wi F) (hr : row < n) : (scale row c F).getD row [] = (F.getD row []).map fun x => x / (F.getD row []).getD c 0 := by
  have h1 := R.1
  unfold scale
  rw [List.getD_eq_getElem?_getD, List.getElem?_set, if_pos rfl, if_pos (by omega)]; rfl
theorem scale_other {F : List (List Rat)} {row c o : Nat} (h : o ≠ row) : (scale row c F)[o]? = F[o]? := by
  unfold scale
  rw [List.getElem?_set, if_neg (fun q => h q.symm)]

/-- one column of echelon, its sizes -/
structure Cols (k n wi : Nat) (M : List (List Rat)) (c : Nat) : Prop where
  rect : Rect n wi (echTo M c).1
  bnd : Bnd (k * 5 ^ c) (echTo M c).1
  len : (echTo M c).2.length ≤ c
  lt : ∀ x ∈ (echTo M c).2, x < c
theorem scaled_bnd {F : List (List Rat)} {n wi row c k : Nat} (R : Rect n wi F) (hr : row < n) (hc : c < wi) (b : Bnd k F) (h0 : (F.getD row []).getD c 0 ≠ 0) :
    (∀ o r, (scale row c F)[o]? = some r → o ≠ row → ∀ x ∈ r, RatB k x) ∧ ∀ x ∈ (scale row c F).getD row [], RatB (2 * k) x := by
  refine ⟨fun o r e ho => ?_, fun x hx => ?_⟩
  · rw [scale_other ho] at e; exact b r (List.mem_of_getElem? e)
  · rw [scale_row R hr] at hx
    obtain ⟨y, hy, rfl⟩ := List.mem_map.mp hx
    have hm := getD_mem (d := ([] : List Rat)) (show row < F.length by rw [R.1]; exact hr)
    rw [Nat.two_mul]
    exact rdiv_B (b _ hm y hy) (b _ hm _ (getD_mem (by rw [R.2 _ hm]; exact hc))) h0
theorem Cols.zero {k n wi : Nat} {M : List (List Rat)} (R : Rect n wi M) (b : Bnd k M) : Cols k n wi M 0 := ⟨R, by rw [Nat.pow_zero, Nat.mul_one]; exact b, Nat.le_refl _, fun x hx => by cases hx⟩
theorem Cols.succ {k n wi : Nat} {M : List (List Rat)} {c : Nat} (C : Cols k n wi M c) (hk : 0 < k) (hc : c < wi) : Cols k n wi M (c + 1) := by
  have e5 : k * 5 ^ (c + 1) = 5 * (k * 5 ^ c) := by rw [Nat.pow_succ]; ac_rfl
  have hk5 : 0 < k * 5 ^ c := Nat.mul_pos hk (Nat.pow_pos (by decide))
  have C' := C
  obtain ⟨R, b, l, lt⟩ := C
  cases e : (spot (echTo M c).1 c (echTo M c).2.length).head? with
  | none =>
    have e2 : echTo M (c + 1) = echTo M c := by rw [echTo_succ, echStep, e]
    exact ⟨by rw [e2]; exact R, by rw [e2, e5]; exact b.le (by omega), by rw [e2]; omega, fun x hx => by rw [e2] at hx; have := lt x hx; omega⟩
  | some p =>
    obtain ⟨h1, h2, h3⟩ := spot_mem e
    have e2 : echTo M (c + 1) = (elim (echTo M c).2.length c (scale (echTo M c).2.length c (swp (echTo M c).2.length p (echTo M c).1)), (echTo M c).2 ++ [c]) := by rw [echTo_succ, echStep, e]
    rw [R.1] at h2
    have hr : (echTo M c).2.length < n := by omega
    have R1 := R.swp hr h2
    have R2 := R1.scale (c := c) hr
    have hl := scaled_bnd R1 hr hc (b.swp (by rw [R.1]; exact hr) (by rw [R.1]; exact h2)) (by rw [swp_row R hr h2]; exact h3)
    refine ⟨by rw [e2]; exact R2.elimTo hr, ?_, by rw [e2]; simp; omega, fun x hx => ?_⟩
    · rw [e2, e5]
      exact bnd_elimTo R2 hr hc hl.1 hl.2 hk5
    · rw [e2] at hx
      rcases List.mem_append.mp hx with q | q
      · have := lt x q; omega
      · rw [List.mem_singleton.mp q]; omega
theorem cols {k n wi : Nat} {M : List (List Rat)} (R : Rect n wi M) (b : Bnd k M) (hk : 0 < k) : ∀ c, c ≤ wi → Cols k n wi M c
  | 0, _ => .zero R b
  | c + 1, h => (cols R b hk c (by omega)).succ hk (by omega)
theorem pow_le {k c wi N : Nat} (h : k * 5 ^ wi ≤ N) (hc : c < wi) : 5 * (k * 5 ^ c) ≤ N := by
  have : 5 ^ (c + 1) ≤ 5 ^ wi := Nat.pow_le_pow_right (by decide) hc
  have h2 := Nat.mul_le_mul_left k this
  have e5 : k * 5 ^ (c + 1) = 5 * (k * 5 ^ c) := by rw [Nat.pow_succ]; ac_rfl
  omega
theorem echTo_lenle {k n wi : Nat} {M : List (List Rat)} (hC : ∀ c, c ≤ wi → Cols k n wi M c) : ∀ c, c ≤ wi → (echTo M c).2.length ≤ n
  | 0, _ => Nat.zero_le _
  | c + 1, h => by
    have ih := echTo_lenle hC c (by omega)
    have R := (hC c (by omega)).rect
    rw [echTo_succ, echStep]
    cases e : (spot (echTo M c).1 c (echTo M c).2.length).head? with
    | none => exact ih
    | some p =>
      obtain ⟨h1, h2, _⟩ := spot_mem e
      rw [R.1] at h2
      show ((echTo M c).2 ++ [c]).length ≤ n
      rw [List.length_append]; show _ + 1 ≤ n; omega

def nullTo (E : List (List Rat)) (pv : List Nat) (wi c : Nat) : Nat → List Rat
  | 0 => (List.replicate wi 0).set c 1
  | k + 1 => (nullTo E pv wi c k).set (pv.getD k 0) (-((E.getD k []).getD c 0))
theorem nullTo_len (E : List (List Rat)) (pv : List Nat) (wi c : Nat) : ∀ k, (nullTo E pv wi c k).length = wi
  | 0 => by simp [nullTo]
  | k + 1 => by rw [nullTo, List.length_set, nullTo_len E pv wi c k]
def nullBaseTo (E : List (List Rat)) (pv : List Nat) (wi n : Nat) : List (List Rat) := ((List.range n).filter fun c => decide (c ∉ pv)).map fun c => nullTo E pv wi c pv.length
def nullBase (M : List (List Rat)) : List (List Rat) := nullBaseTo (ech M).1 (ech M).2 (wd M) (wd M)
theorem nullBaseTo_in {E : List (List Rat)} {pv : List Nat} {wi n : Nat} (h : n ∈ pv) : nullBaseTo E pv wi (n + 1) = nullBaseTo E pv wi n := by
  rw [nullBaseTo, List.range_succ, List.filter_append, List.filter_cons_of_neg (by simpa using h), List.filter_nil, List.append_nil]; rfl
theorem nullBaseTo_out {E : List (List Rat)} {pv : List Nat} {wi n : Nat} (h : n ∉ pv) : nullBaseTo E pv wi (n + 1) = nullBaseTo E pv wi n ++ [nullTo E pv wi n pv.length] := by
  rw [nullBaseTo, List.range_succ, List.filter_append, List.filter_cons_of_pos (by simpa using h), List.filter_nil, List.map_append]; rfl
theorem nats_mem {l : List Nat} {c : Nat} : (c : Int) ∈ nats l ↔ c ∈ l := by
  unfold nats
  rw [List.mem_map]
  exact ⟨fun ⟨a, h, e⟩ => by rw [← Int.ofNat.inj e]; exact h, fun h => ⟨c, h, rfl⟩⟩
theorem nats_get {l : List Nat} {i : Nat} (h : i < l.length) : (nats l)[i]? = some ((l.getD i 0 : Nat) : Int) := by
  rw [nats, List.getElem?_map, get_getD 0 h]; rfl

def aug (M : List (List Rat)) (b : List Rat) : List (List Rat) := List.zipWith (fun r x => r ++ [x]) M b
theorem aug_get {M : List (List Rat)} {b : List Rat} {i : Nat} {r : List Rat} {x : Rat} (h : M[i]? = some r) (hx : b[i]? = some x) : (aug M b)[i]? = some (r ++ [x]) := by
  rw [aug, List.getElem?_zipWith, h, hx]
theorem aug_inv {M : List (List Rat)} {b : List Rat} {i : Nat} {q : List Rat} (h : (aug M b)[i]? = some q) : ∃ r x, M[i]? = some r ∧ b[i]? = some x ∧ q = r ++ [x] := by
  rw [aug, List.getElem?_zipWith] at h
  cases h1 : M[i]? with
  | none => rw [h1] at h; simp at h
  | some r =>
    cases h2 : b[i]? with
    | none => rw [h1, h2] at h; simp at h
    | some x => rw [h1, h2] at h; simp at h; exact ⟨r, x, rfl, rfl, h.symm⟩
theorem aug_rect {M : List (List Rat)} {b : List Rat} {n wi : Nat} (R : Rect n wi M) (hb : b.length = n) : Rect n (wi + 1) (aug M b) := by
  refine ⟨by rw [aug, List.length_zipWith, R.1, hb, Nat.min_self], fun q hq => ?_⟩
  obtain ⟨i, hi⟩ := List.mem_iff_getElem?.mp hq
  obtain ⟨r, x, h1, h2, rfl⟩ := aug_inv hi
  rw [List.length_append, R.2 r (List.mem_of_getElem? h1)]; rfl
theorem aug_bnd {M : List (List Rat)} {b : List Rat} {k : Nat} (B : Bnd k M) (hb : ∀ x ∈ b, RatB k x) : Bnd k (aug M b) := by
  intro q hq
  obtain ⟨i, hi⟩ := List.mem_iff_getElem?.mp hq
  obtain ⟨r, x, h1, h2, rfl⟩ := aug_inv hi
  intro y hy
  rcases List.mem_append.mp hy with z | z
  · exact B r (List.mem_of_getElem? h1) y z
  · rw [List.mem_singleton.mp z]; exact hb x (List.mem_of_getElem? h2)
theorem wd_rect {M : List (List Rat)} {n wi : Nat} (R : Rect n wi M) (hn : 0 < n) : wd M = wi := by
  cases M with
  | nil => have := R.1; simp at this; omega
  | cons r t => exact R.2 r (List.mem_cons_self ..)
def solTo (E : List (List Rat)) (pv : List Nat) (wi : Nat) : Nat → List Rat
  | 0 => List.replicate wi 0
  | k + 1 => (solTo E pv wi k).set (pv.getD k 0) ((E.getD k []).getD wi 0)
theorem solTo_len (E : List (List Rat)) (pv : List Nat) (wi : Nat) : ∀ k, (solTo E pv wi k).length = wi
  | 0 => by simp [solTo]
  | k + 1 => by rw [solTo, List.length_set, solTo_len E pv wi k]
def sol (M : List (List Rat)) (b : List Rat) : List Rat := solTo (ech (aug M b)).1 (ech (aug M b)).2 (wd M) (ech (aug M b)).2.length
/-! rows of ints of one's own -/
def IRowP (xs : List Int) : Obj → Prop := fun o => ∃ vs, LstP vs o ∧ Paired (IntV (fun _ => none)) xs vs
def zE (as : List Addr) (F : List (List Int)) : List Ent := List.zipWith (fun a xs => (a, IRowP xs)) as F
theorem zE_fst : ∀ {as : List Addr} {F : List (List Int)}, as.length = F.length → (zE as F).map (fun p => p.1) = as
  | [], _, _ => rfl
  | a :: as, x :: F, h => by
    show a :: (zE as F).map (fun p => p.1) = a :: as
    rw [zE_fst (by simpa using h)]
  | _ :: _, [], h => by simp at h
theorem zE_split : ∀ {as : List Addr} {F : List (List Int)} {i : Nat} {a : Addr} {xs : List Int} (xs' : List Int), as[i]? = some a → F[i]? = some xs →
    zE as (F.set i xs') = zE (as.take i) (F.take i) ++ (a, IRowP xs') :: zE (as.drop (i + 1)) (F.drop (i + 1))
  | b :: as, x :: F, 0, a, xs, xs', h1, h2 => by
    cases h1; cases h2
    simp [zE]
  | b :: as, x :: F, i + 1, a, xs, xs', h1, h2 => by
    show (b, IRowP x) :: zE as (F.set i xs') = (b, IRowP x) :: (zE (as.take i) (F.take i) ++ (a, IRowP xs') :: zE (as.drop (i + 1)) (F.drop (i + 1)))
    rw [zE_split (i := i) xs' (by simpa using h1) (by simpa using h2)]
  | [], _, _, _, _, _, h1, _ => by simp at h1
  | _ :: _, [], _, _, _, _, _, h2 => by simp at h2
theorem set_same {α : Type} {F : List α} {i : Nat} {x : α} (h : F[i]? = some x) : F.set i x = F := by
  refine List.ext_getElem? fun j => ?_
  rw [List.getElem?_set]
  by_cases q : i = j
  · subst q
    rw [if_pos rfl, h]
    have := (List.getElem?_eq_some_iff.mp h).1
    rw [if_pos this]
  · rw [if_neg q]
theorem zE_mem {as : List Addr} {F : List (List Int)} {i : Nat} {a : Addr} {xs : List Int} (h1 : as[i]? = some a) (h2 : F[i]? = some xs) : (a, IRowP xs) ∈ zE as F := by
  refine List.mem_of_getElem? (i := i) ?_
  rw [zE, List.getElem?_zipWith, h1, h2]
theorem zE_inv {as : List Addr} {F : List (List Int)} {p : Ent} (h : p ∈ zE as F) : ∃ (i : Nat) (a : Addr) (xs : List Int), as[i]? = some a ∧ F[i]? = some xs ∧ p = (a, IRowP xs) := by
  obtain ⟨i, hi⟩ := List.mem_iff_getElem?.mp h
  rw [zE, List.getElem?_zipWith] at hi
  cases h1 : as[i]? with
  | none => rw [h1] at hi; simp at hi
  | some r =>
    cases h2 : F[i]? with
    | none => rw [h1, h2] at hi; simp at hi
    | some x => rw [h1, h2] at hi; simp at hi; exact ⟨i, r, x, h1, h2, hi.symm⟩

section
variable {prog : Program} {w : World} {A : Around} {E : Value → Shared → Prop} {s : Shared} {tk : Nat}
variable {W : List Addr} {B₀ B B' : Base} {h₀ h h' : Heap} {own : List Addr} {env : Env} {m : Str → Option Value} {ps : List Ent} {x : Str} {pos : Pos} {v : Value}

theorem Fm.row {a : Addr} {xs : List Int} (S : Fm W B₀ h₀ own env B m ps h) (hm : (a, IRowP xs) ∈ ps) : ∃ vs, h.PlainList a vs.toArray ∧ Paired (IntV B) xs vs := by
  obtain ⟨o, e, vs, ⟨n, rfl⟩, p⟩ := S.ents _ hm
  exact ⟨vs, ⟨n, e⟩, p⟩

/-- an item of a row of one's own is set -/
theorem setRow {as : List Addr} {F : List (List Int)} {ps₂ : List Ent} {a : Addr} {xs : List Int} {i k : Nat} {y z : Int} {t u : Tok} {Q : Unit → Shared → Prop} (S : Fm W B₀ h₀ (ownOf env) env B m (zE as F ++ ps₂) h)
    (ha : as[i]? = some a) (hx : F[i]? = some xs) (hz : z = k) (hk : k < 1000) (hn : k < xs.length)
    (hq : ∀ h', Fm W B₀ h₀ (ownOf env) env B m (zE as (F.set i (xs.set k y)) ++ ps₂) h' → Q () (mk s h' tk)) : wpAny (model prog w) A (setItem (.ref a) (.int z t) (.int y u)) Q E (mk s h tk) := by
  subst hz
  obtain ⟨vs, hl, hp⟩ := S.row (List.mem_append_left _ (zE_mem ha hx))
  have len := pLen hp
  refine setI hl (by omega) (by omega) (by rw [Int.toNat_natCast]; omega) fun h' ⟨o, e, p⟩ hs => hq h' ?_
  rw [Int.toNat_natCast] at p
  have S' : Fm W B₀ h₀ (ownOf env) env B m (zE (as.take i) (F.take i) ++ (a, IRowP xs) :: (zE (as.drop (i + 1)) (F.drop (i + 1)) ++ ps₂)) h := by
    have := S
    rw [← set_same hx, zE_split xs ha hx, List.append_assoc] at this
    exact this
  rw [zE_split (xs.set k y) ha hx, List.append_assoc]
  refine S'.set hs.extBut e ⟨_, p, ?_⟩ (List.mem_cons_self ..) fun x c hm q => ?_
  · exact pSet k hp ⟨u, rfl⟩
  · exact (List.nodup_append.mp S'.nodup).2.2 c (own_cells x c hm) a (by simp) q
end

/-- rows of ints, read from outside -/
structure IM (h : Heap) (D : Addr) (as : List Addr) (F : List (List Int)) : Prop where
  top : h.PlainList D (as.map Value.ref).toArray
  len : as.length = F.length
  row : ∀ (i : Nat) (a : Addr) (xs : List Int), as[i]? = some a → F[i]? = some xs → ∃ vs, h.PlainList a vs.toArray ∧ Paired (IntV (fun _ => none)) xs vs
theorem IM.keeps {h h' : Heap} {D : Addr} {as : List Addr} {F : List (List Int)} (x : IM h D as F) (k : ∀ b o, h.get? b = some o → h'.get? b = some o) : IM h' D as F :=
  ⟨x.top.at fun _ e => k _ _ e, x.len, fun i a xs h1 h2 => let ⟨vs, p, q⟩ := x.row i a xs h1 h2; ⟨vs, p.at fun _ e => k _ _ e, q⟩⟩

/-! the mirror of bareiss -/
def bcell (lead first ahead x y : Int) : Int := (x * lead - first * y).fdiv ahead
def bcols (lead ahead : Int) (prow : List Int) (step j : Nat) (xs : List Int) : List Int :=
  xs.mapIdx fun c x => if step < c ∧ c < step + 1 + j then bcell lead (xs.getD step 0) ahead x (prow.getD c 0) else x
def brow (lead ahead : Int) (prow : List Int) (step n : Nat) (xs : List Int) : List Int := (bcols lead ahead prow step (n - (step + 1)) xs).set step 0
def browsTo (lead ahead : Int) (prow : List Int) (step n i : Nat) (F : List (List Int)) : List (List Int) :=
  F.mapIdx fun r xs => if step < r ∧ r < step + 1 + i then brow lead ahead prow step n xs else xs
theorem bcols_len (lead ahead : Int) (prow : List Int) (step j : Nat) (xs : List Int) : (bcols lead ahead prow step j xs).length = xs.length := by simp [bcols]
theorem brow_len (lead ahead : Int) (prow : List Int) (step n : Nat) (xs : List Int) : (brow lead ahead prow step n xs).length = xs.length := by simp [brow, bcols_len]
theorem browsTo_len (lead ahead : Int) (prow : List Int) (step n i : Nat) (F : List (List Int)) : (browsTo lead ahead prow step n i F).length = F.length := by simp [browsTo]
theorem bcols_get (lead ahead : Int) (prow : List Int) (step j : Nat) (xs : List Int) (c : Nat) :
    (bcols lead ahead prow step j xs)[c]? = xs[c]?.map fun x => if step < c ∧ c < step + 1 + j then bcell lead (xs.getD step 0) ahead x (prow.getD c 0) else x := by
  rw [bcols, List.getElem?_mapIdx]
theorem browsTo_get (lead ahead : Int) (prow : List Int) (step n i : Nat) (F : List (List Int)) (r : Nat) :
    (browsTo lead ahead prow step n i F)[r]? = F[r]?.map fun xs => if step < r ∧ r < step + 1 + i then brow lead ahead prow step n xs else xs := by
  rw [browsTo, List.getElem?_mapIdx]
theorem bcols_zero (lead ahead : Int) (prow : List Int) (step : Nat) (xs : List Int) : bcols lead ahead prow step 0 xs = xs := by
  refine List.ext_getElem? fun c => ?_
  rw [bcols_get]
  cases xs[c]? with
  | none => rfl
  | some x => rw [Option.map_some, if_neg (by omega)]
theorem bcols_succ (lead ahead : Int) (prow : List Int) (step j : Nat) (xs : List Int) :
    bcols lead ahead prow step (j + 1) xs = (bcols lead ahead prow step j xs).set (step + 1 + j) (bcell lead (xs.getD step 0) ahead (xs.getD (step + 1 + j) 0) (prow.getD (step + 1 + j) 0)) := by
  refine List.ext_getElem? fun c => ?_
  rw [List.getElem?_set, bcols_get, bcols_get, bcols_len]
  by_cases q : step + 1 + j = c
  · subst q
    rw [if_pos rfl]
    rcases Nat.lt_or_ge (step + 1 + j) xs.length with h1 | h1
    · have e : xs.getD (step + 1 + j) 0 = xs[step + 1 + j] := by simp [List.getD_eq_getElem?_getD, List.getElem?_eq_getElem h1]
      rw [if_pos h1, List.getElem?_eq_getElem h1, Option.map_some, if_pos (by omega), e]
    · rw [if_neg (by omega), List.getElem?_eq_none h1]; rfl
  · rw [if_neg q]
    cases xs[c]? with
    | none => rfl
    | some x =>
      have : (step < c ∧ c < step + 1 + (j + 1)) ↔ (step < c ∧ c < step + 1 + j) := by omega
      simp only [Option.map_some, this]
theorem browsTo_zero (lead ahead : Int) (prow : List Int) (step n : Nat) (F : List (List Int)) : browsTo lead ahead prow step n 0 F = F := by
  refine List.ext_getElem? fun c => ?_
  rw [browsTo_get]
  cases F[c]? with
  | none => rfl
  | some x => rw [Option.map_some, if_neg (by omega)]
theorem browsTo_succ (lead ahead : Int) (prow : List Int) (step n i : Nat) (F : List (List Int)) {xs : List Int} (h : F[step + 1 + i]? = some xs) :
    browsTo lead ahead prow step n (i + 1) F = (browsTo lead ahead prow step n i F).set (step + 1 + i) (brow lead ahead prow step n xs) := by
  refine List.ext_getElem? fun c => ?_
  rw [List.getElem?_set, browsTo_get, browsTo_get, browsTo_len]
  by_cases q : step + 1 + i = c
  · subst q
    have h1 := (List.getElem?_eq_some_iff.mp h).1
    rw [if_pos rfl, if_pos h1, h, Option.map_some, if_pos (by omega)]
  · rw [if_neg q]
    cases F[c]? with
    | none => rfl
    | some x =>
      have : (step < c ∧ c < step + 1 + (i + 1)) ↔ (step < c ∧ c < step + 1 + i) := by omega
      simp only [Option.map_some, this]
theorem browsTo_keep {lead ahead : Int} {prow : List Int} {step n i : Nat} {F : List (List Int)} {r : Nat} (h : r ≤ step ∨ step + 1 + i ≤ r) : (browsTo lead ahead prow step n i F)[r]? = F[r]? := by
  rw [browsTo_get]
  cases F[r]? with
  | none => rfl
  | some x => rw [Option.map_some, if_neg (by omega)]
theorem bcols_keep {lead ahead : Int} {prow : List Int} {step j : Nat} {xs : List Int} {c : Nat} (h : c ≤ step ∨ step + 1 + j ≤ c) : (bcols lead ahead prow step j xs)[c]? = xs[c]? := by
  rw [bcols_get]
  cases xs[c]? with
  | none => rfl
  | some x => rw [Option.map_some, if_neg (by omega)]
section
variable {W : List Addr} {B₀ B B' : Base} {h₀ h h' : Heap} {own : List Addr} {env : Env} {m : Str → Option Value} {ps ps' ps₂ : List Ent}
theorem Fm.imp (S : Fm W B₀ h₀ own env B m ps h) (hps : ps'.map (fun p => p.1) = ps.map (fun p => p.1)) (he : Ents ps' h) : Fm W B₀ h₀ own env B m ps' h :=
  { S with ents := he, nodup := by rw [hps]; exact S.nodup, apart := by rw [hps]; exact S.apart, fresh := by rw [hps]; exact S.fresh }
theorem Fm.extWs {as : List Addr} {F F' : List (List Int)} (S : Fm W B₀ h₀ (ownOf env) env B m (zE as F ++ ps₂) h) (X : ExtW as B h B' h') (l1 : as.length = F.length) (l2 : as.length = F'.length) (he : Ents (zE as F') h') :
    Fm W B₀ h₀ (ownOf env) env B' m (zE as F' ++ ps₂) h' := by
  have nd := S.nodup
  have nd2 := (List.nodup_append.mp nd).2.1
  have nl : ∀ a ∈ ownOf env, a ∉ as := fun a ha q => (List.nodup_append.mp nd).2.2 a ha a (by rw [List.map_append, zE_fst l1]; exact List.mem_append_left _ q) rfl
  rw [List.map_append, zE_fst l1] at nd2
  refine S.extW X (nl _ (List.mem_cons_self ..)) (fun y c hm => nl c (own_cells y c hm)) nl (fun a ha => by rw [List.map_append, zE_fst l1]; exact List.mem_append_left _ ha) (by rw [List.map_append, List.map_append, zE_fst l1, zE_fst l2]) fun p hp => ?_
  rcases List.mem_append.mp hp with q | q
  · exact he p q
  · obtain ⟨o, eo, po⟩ := S.ents p (List.mem_append_right _ q)
    exact ⟨o, X.keep _ _ (fun z => (List.nodup_append.mp nd2).2.2 p.1 z p.1 (List.mem_map_of_mem (f := fun p : Ent => p.1) q) rfl) eo, po⟩
theorem Fm.im {D : Addr} {as : List Addr} {F : List (List Int)} (S : Fm W B₀ h₀ own env B m ps h) (hD : (D, LstP (as.map Value.ref)) ∈ ps) (hl : as.length = F.length) (hs : ∀ p ∈ zE as F, p ∈ ps) : IM h D as F :=
  ⟨S.plain hD, hl, fun _ _ _ h1 h2 => S.row (hs _ (zE_mem h1 h2))⟩
end
theorem zE_snoc {as : List Addr} {F : List (List Int)} {a : Addr} {xs : List Int} (h : as.length = F.length) : zE (as ++ [a]) (F ++ [xs]) = zE as F ++ [(a, IRowP xs)] := by
  unfold zE; rw [List.zipWith_append h]; rfl

/-! the mirror of determinant -/
def dPrev (F : List (List Int)) (c : Nat) : Int := (F.getD c []).getD c 0
def dRun (M : List (List Int)) : Nat → List (List Int) × Int
  | 0 => (M, 1)
  | c + 1 => (browsTo (dPrev (dRun M c).1 c) (dRun M c).2 ((dRun M c).1.getD c []) c M.length (M.length - (c + 1)) (dRun M c).1, dPrev (dRun M c).1 c)
def piv (M : List (List Int)) (c : Nat) : Int := dPrev (dRun M c).1 c
def detV (M : List (List Int)) : Int := if ∀ c, c < M.length → 0 < piv M c then (dRun M M.length).2 else 0
def Good (M : List (List Int)) : Prop := ∀ c, c < M.length → (∀ d, d < c → 0 < piv M d) → 0 ≤ piv M c ∧ (piv M c = 0 → ∀ q, c ≤ q → q < M.length → ((dRun M c).1.getD q []).getD c 0 = 0)
def Sq (n : Nat) (M : List (List Int)) : Prop := M.length = n ∧ ∀ r ∈ M, r.length = n
def SmM (k : Nat) (M : List (List Int)) : Prop := ∀ r ∈ M, ∀ x ∈ r, Sm k x
theorem getD_mem' {α : Type} {F : List α} {d : α} {i : Nat} (h : i < F.length) : F.getD i d ∈ F := by
  rw [List.getD_eq_getElem?_getD, List.getElem?_eq_getElem h]; exact List.getElem_mem h
theorem Sm.fdiv {k : Nat} {x a : Int} (h : Sm k x) (ha : 0 < a) : Sm k (x.fdiv a) := by
  rw [Int.fdiv_eq_ediv_of_nonneg _ (by omega)]
  exact Nat.lt_of_le_of_lt (Int.natAbs_ediv_le_natAbs x a) h
theorem Sq.browsTo {n step i : Nat} {lead ahead : Int} {prow : List Int} {M : List (List Int)} (h : Sq n M) : Sq n (browsTo lead ahead prow step n i M) := by
  refine ⟨by rw [browsTo_len]; exact h.1, fun r hr => ?_⟩
  obtain ⟨j, hj⟩ := List.mem_iff_getElem?.mp hr
  rw [browsTo_get] at hj
  cases e : M[j]? with
  | none => rw [e] at hj; cases hj
  | some xs =>
    rw [e, Option.map_some] at hj
    have := h.2 xs (List.mem_of_getElem? e)
    cases hj
    split
    · rw [brow_len]; exact this
    · exact this
theorem smM_browsTo {n step i b : Nat} {lead ahead : Int} {prow : List Int} {M : List (List Int)} (h : SmM b M) (hl : Sm b lead) (ha : 0 < ahead) (hb : 0 < b) (hf : ∀ xs ∈ M, Sm b (xs.getD step 0))
    (hp' : ∀ c, Sm b (prow.getD c 0)) : SmM (2 * b + 1) (browsTo lead ahead prow step n i M) := by
  intro r hr x hx
  obtain ⟨j, hj⟩ := List.mem_iff_getElem?.mp hr
  rw [browsTo_get] at hj
  cases e : M[j]? with
  | none => rw [e] at hj; cases hj
  | some xs =>
    rw [e, Option.map_some] at hj
    have hm := List.mem_of_getElem? e
    cases hj
    split at hx
    · obtain ⟨c, hc⟩ := List.mem_iff_getElem?.mp hx
      rw [brow, List.getElem?_set] at hc
      split at hc
      · split at hc
        · cases hc; exact Sm.lit _ (Nat.pow_pos (by decide))
        · cases hc
      · rw [bcols_get] at hc
        cases e2 : xs[c]? with
        | none => rw [e2] at hc; cases hc
        | some y =>
          rw [e2, Option.map_some] at hc
          have hy := h xs hm y (List.mem_of_getElem? e2)
          cases hc
          split
          · unfold bcell
            refine Sm.fdiv (Sm.sub (hy.mul hl) ((hf xs hm).mul (hp' c)) (by omega) (by omega)) ha
          · exact hy.le (by omega)
    · exact (h xs hm x hx).le (by omega)
theorem sm_getD {b : Nat} {xs : List Int} (h : ∀ x ∈ xs, Sm b x) (c : Nat) : Sm b (xs.getD c 0) := by
  rcases Nat.lt_or_ge c xs.length with h1 | h1
  · exact h _ (getD_mem' h1)
  · rw [List.getD_eq_getElem?_getD, List.getElem?_eq_none h1]; exact Sm.lit _ (Nat.pow_pos (by decide))
/-- sizes and shape along the run -/
theorem dRun_ok {n k : Nat} {M : List (List Int)} (hs : Sq n M) (hb : SmM k M) (hk : 0 < k) : ∀ c, c ≤ n → (∀ d, d < c → 0 < piv M d) →
    Sq n (dRun M c).1 ∧ SmM ((k + 1) * 2 ^ c - 1) (dRun M c).1 ∧ 0 < (dRun M c).2 ∧ Sm ((k + 1) * 2 ^ c - 1) (dRun M c).2
  | 0, _, _ => ⟨hs, by rw [Nat.pow_zero, Nat.mul_one, Nat.add_sub_cancel]; exact hb, Int.one_pos, Sm.lit _ (by
      show 1 < 2 ^ _
      exact Nat.one_lt_two_pow (by omega))⟩
  | c + 1, hc, hp => by
    obtain ⟨h1, h2, h3, h4⟩ := dRun_ok hs hb hk c (by omega) fun d hd => hp d (by omega)
    have e2 : (k + 1) * 2 ^ (c + 1) - 1 = 2 * ((k + 1) * 2 ^ c - 1) + 1 := by
      have : 0 < (k + 1) * 2 ^ c := Nat.mul_pos (by omega) (Nat.pow_pos (by decide))
      rw [Nat.pow_succ, ← Nat.mul_assoc]; omega
    have hpos : 0 < (k + 1) * 2 ^ c - 1 := by
      have : k + 1 ≤ (k + 1) * 2 ^ c := Nat.le_mul_of_pos_right _ (Nat.pow_pos (by decide))
      omega
    have hprow : ∀ x ∈ (dRun M c).1.getD c [], Sm ((k + 1) * 2 ^ c - 1) x := h2 _ (getD_mem' (by rw [h1.1]; omega))
    have hlead : Sm ((k + 1) * 2 ^ c - 1) (dPrev (dRun M c).1 c) := sm_getD hprow c
    refine ⟨?_, ?_, hp c (by omega), ?_⟩
    · show Sq n (browsTo _ _ _ _ M.length _ _)
      rw [hs.1]; exact h1.browsTo
    · rw [e2]
      show SmM _ (browsTo _ _ _ _ M.length _ _)
      exact smM_browsTo h2 hlead h3 hpos (fun xs hx => sm_getD (h2 xs hx) c) (sm_getD hprow)
    · rw [e2]; exact hlead.le (by omega)
section
variable {prog : Program} {w : World} {A : Around} {E : Value → Shared → Prop} {s : Shared} {h : Heap} {tk : Nat} {B : Base} {Q : Value → Shared → Prop}

theorem shape_ok (T : Tp (Mine.hd.heap_39 w.params) B) (sub : B.In h) (R : Room 1 A) {α : Type} {P : Rel α} {M : List (List α)} {v : Value} (hv : LV (LV P) B M v) (hM : Dims M)
    (hq : ∀ B' h' tk' t x y, Ext B h B' h' → B' t = some (tupO [.int M.length x, .int (wd M) y] 0) → Q (.ref t) (mk s h' tk')) :
    wpAny (model prog w) A (call (.ref 85) [v]) Q E (mk s h tk) := by
  obtain ⟨l, vs, c, rfl, hl, hp⟩ := hv
  refine' enter (binds := [("a", .ref l)]) [] T sub ?he .nil ?hB ?hf ?hcd ?hroom ?hbind ?hkind ?hh ?hcn ?hco ?hgen ?hk
  walk_at "no things"
  walk_at "call the def"
  intro L h₁ tk₁ hL S
  have len : vs.length = M.length := pLen hp
  have sz := hM.1
  refine wpAny_execs_cons (wpAny_Return_some (Tuple_ (args_cons (Call_ ?_))))
  walk_at "eval Name"
  refine callWith_builtin1 (args_cons ?_)
  walk_at "eval Name"
  refine args_nil (lenL (pln_of S.sub hl) (by omega) fun t₂ tk₂ => args_cons (IfExp_ (wpAny_isTrue_Compare1 (Call_ ?_))))
  walk_at "eval Name"
  refine callWith_builtin1 (args_cons ?_)
  walk_at "eval Name"
  refine args_nil (lenL (pln_of S.sub hl) (by omega) fun _ tk₃ => cI fun _ tk₄ => PyProof.Rows.gt_int (wpAny_truthy_bool ?_))
  cases hp with
  | nil =>
    rw [if_neg (by simp)]
    refine cI fun _ tk₅ => args_nil (mkTup S fun B' h' t le et S' => hq B' h' _ t _ _ S'.toExt et)
  | cons hx hr =>
    rename_i r v₀ M' vs'
    obtain ⟨lr, vr, cr, rfl, hlr, hpr⟩ := hx
    rw [if_pos (by simp)]
    refine Call_ ?_
    walk_at "eval Name"
    refine callWith_builtin1 (args_cons (Subscript_ ?_))
    walk_at "eval Name"
    have szr : r.length ≤ 1000 := hM.2 r (List.mem_cons_self ..)
    refine cI fun _ tk₅ => itemL (pln_of S.sub hl) (by decide) (by decide) rfl (args_nil (lenL (pln_of S.sub hlr) (by rw [pLen hpr]; omega) fun t₆ tk₆ => args_nil ?_))
    refine mkTup S fun B' h' t le et S' => hq B' h' _ t t₂ t₆ S'.toExt ?_
    rw [et, ← len]
    show some (tupO [_, .int (vr.length : Int) t₆] 0) = some (tupO [_, .int (r.length : Int) t₆] 0)
    rw [pLen hpr]

theorem copied_ok (T : Tp (Mine.hd.heap_39 w.params) B) (sub : B.In h) (R : Room 1 A) {M : List (List Rat)} {v : Value} (hv : MatV B M v) (hM : Dims M)
    (hq : ∀ B' h' tk' D vs, Ext B h B' h' → h.get? D = none → B' D = none → (∃ o, h'.get? D = some o ∧ LstP vs o) → Paired (RowV B') M vs → Q (.ref D) (mk s h' tk')) :
    wpAny (model prog w) A (call (.ref 97) [v]) Q E (mk s h tk) := by
  obtain ⟨l, vs, c, rfl, hl, hp⟩ := hv
  refine' enter (binds := [("a", .ref l)]) [] T sub ?he .nil ?hB ?hf ?hcd ?hroom ?hbind ?hkind ?hh ?hcn ?hco ?hgen ?hk
  walk_at "no things"
  walk_at "call the def"
  intro L h₁ tk₁ hL S
  have len : vs.length = M.length := pLen hp
  have sz := hM.1
  refine wpAny_execs_cons (wpAny_Return_some (comp_start [] (by rfl) (by rfl) (by decide) ?_))
  walk_at "eval Name"
  refine iterL "row" R.quiet S hl fun h₂ I IT hN st S₂ => ?_
  refine comp_priv (ps := []) (fun i B₁ ys => Paired (RowV B₁) (M.take i) ys) (IT _) hN st S₂ (List.mem_cons_self ..) (by simpa using Paired.nil) (fits (by omega)) [] (fun p hp => by cases hp) (fun _ => rfl) .nil (fun C => canL (List.mem_cons_self ..)) ?_ ?_
  · rintro C D i B₁ m₂ ys h₃ tk₂ E' hi _ le g ⟨y, hy, rfl⟩ F
    refine tests_nil ?_
    rw [if_pos rfl]
    obtain ⟨r, hr, lr, vr, cr, rfl, hlr, hpr⟩ := pGet' hp hy
    refine Call_ ?_
    walk_at "eval Name"
    refine callWith_type1 (args_cons ?_)
    walk_at "eval Name"
    refine args_nil (copyB F (pln_of F.sub (le _ _ hlr)) (fits (by have := hM.2 r (List.mem_of_getElem? hr); have := pLen hpr; omega)) fun B₂ h₄ D' c' le₂ e₂ F₂ => ?_)
    exact ⟨B₂, _, h₄, _, rfl, le₂, pSnocTake (pMono RowV.mono le₂ g) hr ⟨_, _, _, rfl, e₂, pMono RatV.mono (le.trans le₂) hpr⟩, mc_upd rfl, F₂⟩
  · intro C D B₂ ys h' tk' hC hD le g _ F
    refine comp_none F (List.mem_cons_self ..) (fun x c hc q => hC.2 x c hc (List.mem_singleton.mpr q)) (hC.1 _ (List.mem_singleton.mpr rfl)) fun h'' F' => ?_
    exact hq B₂ h'' _ D ys F'.toExt (F'.fresh D (by simp) (by simp)) (F'.apart D (by simp)) (F'.ents (D, LstP ys) (by simp)) (pWhole g len)
end
section
variable {prog : Program} {w : World} {A : Around} {E : Value → Shared → Prop} {s : Shared} {h : Heap} {tk : Nat} {B : Base} {Q : Value → Shared → Prop}

theorem need_shape_ok (T : Tp (Mine.hd.heap_39 w.params) B) (sub : B.In h) (R : Room 1 A) {v : Value}
    (hq : ∀ B' h' tk', Ext B h B' h' → Q .none (mk s h' tk')) :
    wpAny (model prog w) A (call (.ref 92) [.bool true, v]) Q E (mk s h tk) := by
  refine' enter (binds := [("is_right", .bool true), ("text", v)]) [] T sub ?he .nil ?hB ?hf ?hcd ?hroom ?hbind ?hkind ?hh ?hcn ?hco ?hgen ?hk
  walk_at "no things"
  walk_at "call the def"
  intro L h₁ tk₁ hL S
  refine wpAny_execs_cons (wpAny_If (isTrue_not (isTrue_plain ?_)))
  walk_at "eval Name"
  refine wpAny_truthy_bool ?_
  rw [if_neg (by decide)]
  exact wpAny_execs_nil (wpAny_execs_nil (hq _ _ _ S.toExt))

theorem from_whole_ok (T : Tp (Mine.hd.heap_39 w.params) B) (sub : B.In h) (R : Room 1 A) {M : List (List Int)} {v : Value} (hv : IMatV B M v) (hM : Dims M)
    (hq : ∀ B' h' tk' v', Ext B h B' h' → MatV B' (qmat M) v' → Q v' (mk s h' tk')) :
    wpAny (model prog w) A (call (.ref 102) [v]) Q E (mk s h tk) := by
  obtain ⟨l, vs, c, rfl, hl, hp⟩ := hv
  refine' enter (binds := [("a", .ref l)]) [] T sub ?he .nil ?hB ?hf ?hcd ?hroom ?hbind ?hkind ?hh ?hcn ?hco ?hgen ?hk
  walk_at "no things"
  walk_at "call the def"
  intro L h₁ tk₁ hL S
  have len : vs.length = M.length := pLen hp
  have sz := hM.1
  refine wpAny_execs_cons (wpAny_Return_some (comp_start [] (by rfl) (by rfl) (by decide) ?_))
  walk_at "eval Name"
  refine iterL "row" R.quiet S hl fun h₂ I IT hN st S₂ => ?_
  refine comp_pure (ps := []) (fun i B₁ ys => Paired (RowV B₁) ((qmat M).take i) ys) (IT _) hN st S₂ (List.mem_cons_self ..) (by simpa using Paired.nil)
    (fun _ _ _ l g => pMono RowV.mono l g) (fits (by omega)) [] (fun p hp => by cases hp) (fun _ => rfl) .nil (fun C => canL (List.mem_cons_self ..)) ?_ ?_
  · rintro C D i B₁ m₂ ys h₃ tk₂ E' hi _ le g ⟨y, hy, rfl⟩ F
    refine tests_nil ?_
    rw [if_pos rfl]
    obtain ⟨r, hr, lr, vr, cr, rfl, hlr, hpr⟩ := pGet' hp hy
    have szr : r.length ≤ 1000 := hM.2 r (List.mem_of_getElem? hr)
    have lenr := pLen hpr
    refine comp_start [] (by rfl) (by rfl) (by decide) ?_
    walk_at "eval Name"
    refine iterL "one" R.quiet F (le _ _ hlr) fun h₄ I₂ IT₂ hN₂ st₂ S₄ => ?_
    refine comp_pure (fun i B₂ zs => Paired (RatV B₂) ((qrow r).take i) zs) (IT₂ _) hN₂ st₂ S₄ (List.mem_cons_self ..) (by simpa using Paired.nil)
      (fun _ _ _ l g => pMono RatV.mono l g) (fits (by omega)) [] (fun p hp => by cases hp) (fun _ => rfl) .nil (fun C => canL (List.mem_cons_self ..)) ?_ ?_
    · rintro C₂ D₂ j B₂ m₃ zs h₅ tk₃ E₂ hj _ le₂ g₂ ⟨z, hz, rfl⟩ F₂
      refine tests_nil ?_
      rw [if_pos rfl]
      obtain ⟨x, hx, t, rfl⟩ := pGet' hpr hz
      refine Tuple_ (args_cons ?_)
      walk_at "eval Name"
      refine args_cons (cI fun t₂ tk₄ => args_nil (mkTup F₂ fun B₃ h₆ t' le₃ et F₃ => ?_))
      refine ⟨B₃, _, h₆, _, rfl, le₃, pSnocTake (x := (x : Rat)) (pMono RatV.mono le₃ g₂) (by rw [qrow, List.getElem?_map, hx]; rfl) (.mk et rfl rfl), mc_upd rfl, F₃⟩
    · intro C₂ D₂ B₂ c₂ zs h₅ tk₃ hC le₂ g₂ _ e₂ F₂
      refine comp_none F₂ (List.mem_cons_self ..) (fun x c hc q => hC.2 x c hc (List.mem_singleton.mpr q)) (hC.1 _ (List.mem_singleton.mpr rfl)) fun h₆ F₃ => ?_
      refine ⟨B₂, _, h₆, _, rfl, le₂, pSnocTake (x := qrow r) (pMono RowV.mono le₂ g) (by rw [qmat, List.getElem?_map, hr]; rfl) ⟨_, _, _, rfl, e₂, pWhole g₂ (by simp [qrow, lenr])⟩, mc_upd rfl, F₃⟩
  · intro C D B₂ c₂ ys h' tk' hC le g _ e F
    refine comp_none F (List.mem_cons_self ..) (fun x c hc q => hC.2 x c hc (List.mem_singleton.mpr q)) (hC.1 _ (List.mem_singleton.mpr rfl)) fun h'' F' => ?_
    exact hq B₂ h'' _ _ F'.toExt ⟨_, _, _, rfl, e, pWhole g (by simp [qmat, len])⟩

theorem swap_rows_ok (T : Tp (Mine.hd.heap_39 w.params) B) (sub : B.In h) (R : Room 1 A) {l : Addr} {vs : List Value} {i j : Nat} {t u : Tok} {x y : Value} (he : ∃ o, h.get? l = some o ∧ LstP vs o) (hB : B l = none)
    (hi : vs[i]? = some x) (hj : vs[j]? = some y) (hz : vs.length ≤ 1000)
    (hq : ∀ B' h' tk', ExtW [l] B h B' h' → (∃ o, h'.get? l = some o ∧ LstP ((vs.set i y).set j x) o) → Q .none (mk s h' tk')) :
    wpAny (model prog w) A (call (.ref 109) [.ref l, .int i t, .int j u]) Q E (mk s h tk) := by
  have ii : i < vs.length := (List.getElem?_eq_some_iff.mp hi).1
  have jj : j < vs.length := (List.getElem?_eq_some_iff.mp hj).1
  refine' enter (binds := [("a", .ref l), ("one", .int i t), ("other", .int j u)]) [(l, LstP vs)] T sub ?he (by simp) ?hB ?hf ?hcd ?hroom ?hbind ?hkind ?hh ?hcn ?hco ?hgen ?hk
  case he => intro p hp; rw [List.mem_singleton.mp hp]; exact he
  case hB => intro a ha; rw [List.mem_singleton.mp ha]; exact hB
  walk_at "call the def"
  intro L h₁ tk₁ hL S
  refine wpAny_execs_cons (Assign_Tuple (Tuple_ (args_cons (Subscript_ ?_))))
  walk_at "eval Name"
  walk_at "eval Name"
  refine itemL (S.plain (List.mem_singleton.mpr rfl)) (by omega) (by omega) (by rw [Int.toNat_natCast]; exact hj) (args_cons (Subscript_ ?_))
  walk_at "eval Name"
  walk_at "eval Name"
  refine itemL (S.plain (List.mem_singleton.mpr rfl)) (by omega) (by omega) (by rw [Int.toNat_natCast]; exact hi) (args_nil ?_)
  refine mkTup S fun B₁ h₂ t' le et S₁ => ?_
  refine asgT R.quiet S₁ et rfl rfl fun h₃ S₂ => ?_
  refine assignInOrder_cons (assignSub ?_)
  walk_at "eval Name"
  walk_at "eval Name"
  refine setP [] S₂ (by omega) (by omega) (by rw [Int.toNat_natCast]; exact ii) fun h₄ S₃ => ?_
  refine assignInOrder_cons (assignSub ?_)
  walk_at "eval Name"
  walk_at "eval Name"
  refine setP [] S₃ (by omega) (by omega) (by rw [Int.toNat_natCast, List.length_set]; exact jj) fun h₅ S₄ => ?_
  refine assignInOrder_nil (wpAny_execs_nil ?_)
  have := S₄.ents _ (List.mem_singleton.mpr rfl)
  rw [Int.toNat_natCast, Int.toNat_natCast] at this
  exact hq B₁ h₅ _ S₄.toExtW this
end
section
variable {prog : Program} {w : World} {A : Around} {E : Value → Shared → Prop} {s : Shared} {h : Heap} {tk : Nat} {B : Base} {Q : Value → Shared → Prop}

theorem take_off_ok (T : Tp (Mine.hd.heap_39 w.params) B) (sub : B.In h) (R : Room 4 A) {l : Addr} {vs : List Value} {M : List (List Rat)} {i j : Nat} {t u : Tok} {r p : List Rat} {q : Rat} {v : Value} {k₁ k₂ k₃ : Nat}
    (he : ∃ o, h.get? l = some o ∧ LstP vs o) (hB : B l = none) (hp : Paired (RowV B) M vs) (hM : Dims M) (hi : M[i]? = some r) (hj : M[j]? = some p) (hrp : r.length = p.length) (hv : RatV B q v)
    (br : ∀ x ∈ r, RatB k₁ x) (bp : ∀ x ∈ p, RatB k₂ x) (bq : RatB k₃ q) (hk : k₁ + (k₃ + k₂) ≤ 9000)
    (hq : ∀ B' h' tk' y, ExtW [l] B h B' h' → (∃ o, h'.get? l = some o ∧ LstP (vs.set i y) o) → RowV B' (rowSub q r p) y → Q .none (mk s h' tk')) :
    wpAny (model prog w) A (call (.ref 114) [.ref l, .int i t, .int j u, v]) Q E (mk s h tk) := by
  refine' enter (binds := [("a", .ref l), ("row", .int i t), ("source", .int j u), ("number", v)]) [(l, LstP vs)] T sub ?he (by simp) ?hB ?hf ?hcd ?hroom ?hbind ?hkind ?hh ?hcn ?hco ?hgen ?hk
  case he => intro p hp; rw [List.mem_singleton.mp hp]; exact he
  case hB => intro a ha; rw [List.mem_singleton.mp ha]; exact hB
  walk_at "call the def"
  intro L h₁ tk₁ hL S
  obtain ⟨y, hy, lr, vr, cr, rfl, hlr, hpr⟩ := pGet hp hi
  obtain ⟨z, hz, lp, vp, cp, rfl, hlp, hpp⟩ := pGet hp hj
  have ii : i < vs.length := (List.getElem?_eq_some_iff.mp hy).1
  have jj : j < vs.length := (List.getElem?_eq_some_iff.mp hz).1
  have len := pLen hp
  have sz := hM.1
  have szr : r.length ≤ 1000 := hM.2 r (List.mem_of_getElem? hi)
  have lenr := pLen hpr
  have lenp := pLen hpp
  refine wpAny_execs_cons (wpAny_Assign_Subscript (comp_start [("source", L + 1 + 1), ("number", L + 1 + 1 + 1), ("a", L + 1)] (by rfl) (by rfl) (by decide) (Call_ ?_)))
  walk_at "N"
  refine callWith_type1 (args_cons (Subscript_ ?_))
  walk_at "N"
  walk_at "N"
  refine itemL (S.plain (List.mem_singleton.mpr rfl)) (by omega) (by omega) (by rw [Int.toNat_natCast]; exact hy) (args_nil ?_)
  refine enumL "at" "one" R.quiet S hlr fun h₂ e it IT hN st S₂ => ?_
  refine (IT default default 0 default).self 0 (mk s h₂ _) _ _ st ?_
  have T₂ := T.le S₂.mono
  have hid := S₂.hide (List.mem_cons_self ..) hN.2 hN.1
  have pl := hid.plain (List.mem_singleton.mpr rfl)
  refine comp_pure (ps := [(l, LstP vs)]) (fun n B₁ ys => Paired (RatV B₁) ((rowSub q r p).take n) ys) (IT _ _ _ _) hN st S₂ (List.mem_cons_self ..) (by simpa using Paired.nil)
    (fun _ _ _ l g => pMono RatV.mono l g) (fits (by omega)) ["source", "number", "a"] (by walk_at "cells known") (fun _ => rfl) (by decide +kernel) (fun C => ⟨canL (List.mem_cons_self ..), canL (List.mem_cons_self ..)⟩) ?_ ?_
  · rintro C D n B₁ m₂ ys h₃ tk₂ E' hn _ le g ⟨_, o, ⟨t₁, ho, rfl⟩, rfl⟩ F
    refine tests_nil ?_
    rw [if_pos rfl]
    obtain ⟨x, hx, ox⟩ := pGet' hpr ho
    have nr : n < r.length := (List.getElem?_eq_some_iff.mp hx).1
    have hx2 : p[n]? = some p[n] := List.getElem?_eq_getElem (by omega)
    obtain ⟨o2, ho2, ox2⟩ := pGet hpp hx2
    have pl₁ : h₃.PlainList l vs.toArray := pl.at fun o e => F.keep l o (by simp) e
    refine Call_ ?_
    walk_at "N"
    refine callF T₂ (by k_dflt k_is) (args_cons ?_)
    walk_at "N"
    refine args_cons (Call_ ?_)
    walk_at "N"
    refine callF T₂ (by k_dflt k_is) (args_cons ?_)
    walk_at "N"
    refine args_cons (Subscript_ (Subscript_ ?_))
    walk_at "N"
    walk_at "N"
    refine itemL pl₁ (by omega) (by omega) (by rw [Int.toNat_natCast]; exact hz) ?_
    walk_at "N"
    refine itemL (pln_of F.sub (le _ _ hlp)) (by omega) (by omega) (by rw [Int.toNat_natCast]; exact ho2) (args_nil ⟨F.sub.of_le F.mono, ?_⟩)
    refine rmul_ok (T₂.le F.mono) F.sub ((R.deeper _).le (by omega)) (hv.le le) (ox2.le le) bq (bp _ (List.mem_of_getElem? hx2)) (by omega) fun B₂ h₄ tk₃ v₂ X hv₂ => ?_
    have F₂ := F.ext X
    refine args_nil ⟨F₂.sub.of_le F₂.mono, ?_⟩
    refine rsub_ok (T₂.le F₂.mono) F₂.sub ((R.deeper _).le (by omega)) ((ox.le le).le X.le) hv₂ (br _ (List.mem_of_getElem? hx)) (rmul_B bq (bp _ (List.mem_of_getElem? hx2))) hk fun B₃ h₅ tk₄ v₃ X₃ hv₃ => ?_
    refine ⟨B₃, _, h₅, _, rfl, X.le.trans X₃.le, pSnocTake (pMono RatV.mono (X.le.trans X₃.le) g) ?_ hv₃, mc_upd2 rfl rfl, F₂.ext X₃⟩
    rw [rowSub, List.getElem?_zipWith, hx, hx2]
  · intro C D B₂ c₂ ys h₃ tk₃ hC le g _ e F
    refine comp_none F (List.mem_cons_self ..) (fun x c hc q => hC.2 x c hc (List.mem_singleton.mpr q)) (hC.1 _ (List.mem_singleton.mpr rfl)) fun h₄ F' => ?_
    walk_at "N"
    walk_at "N"
    refine setP [] F' (by omega) (by omega) (by rw [Int.toNat_natCast]; exact ii) fun h₅ S₃ => ?_
    refine wpAny_execs_nil ?_
    have := S₃.ents _ (List.mem_singleton.mpr rfl)
    rw [Int.toNat_natCast] at this
    exact hq B₂ h₅ _ _ S₃.toExtW this ⟨_, _, _, rfl, e, pWhole g (by simp [rowSub, lenr, hrp])⟩
end
section
variable {prog : Program} {w : World} {A : Around} {E : Value → Shared → Prop} {s : Shared} {h : Heap} {tk : Nat} {B : Base} {Q : Value → Shared → Prop}

theorem R0_ok (T : Tp (Mine.hd.heap_39 w.params) B) : RatV B 0 (.ref 42) := ⟨42, _, _, _, rfl, T.obj (by k_dflt k_is)⟩
theorem R1_ok (T : Tp (Mine.hd.heap_39 w.params) B) : RatV B 1 (.ref 43) := ⟨43, _, _, _, rfl, T.obj (by k_dflt k_is)⟩

set_option maxHeartbeats 4000000 in
theorem echelon_ok (T : Tp (Mine.hd.heap_39 w.params) B) (sub : B.In h) (R : Room 5 A) {M : List (List Rat)} {v : Value} {k n wi : Nat} (hv : MatV B M v) (hR : Rect n wi M) (hw : wd M = wi) (hn : n ≤ 100) (hwi : wi ≤ 100)
    (hb : Bnd k M) (hk0 : 0 < k) (hk : k * 5 ^ wi ≤ 9000)
    (hq : ∀ B' h' tk' t f p, Ext B h B' h' → B' t = some (tupO [f, p] 0) → MatV B' (ech M).1 f → IntsV B' (nats (ech M).2) p → Q (.ref t) (mk s h' tk')) :
    wpAny (model prog w) A (call (.ref 119) [v]) Q E (mk s h tk) := by
  have hD : Dims M := ⟨by rw [hR.1]; omega, fun r hr => by rw [hR.2 r hr]; omega⟩
  have hC := cols hR hb hk0
  obtain ⟨l, vs, c, rfl, hl, hp⟩ := hv
  refine' enter (binds := [("a", .ref l)]) [] T sub ?he .nil ?hB ?hf ?hcd ?hroom ?hbind ?hkind ?hh ?hcn ?hco ?hgen ?hk
  walk_at "no things"
  walk_at "call the def"
  intro L h₁ tk₁ hL S
  refine wpAny_execs_cons (Assign_Tuple (Tuple_ (args_cons (Call_ ?_))))
  walk_at "N"
  refine callF T (by k_dflt k_is) (args_cons ?_)
  walk_at "N"
  refine args_nil ⟨S.sub, ?_⟩
  refine copied_ok T S.sub ((R.deeper _).le (by omega)) ⟨l, vs, c, rfl, hl, hp⟩ hD fun B₁ h₂ tk₂ D vs₁ X hnD hBD eD hp₁ => ?_
  obtain ⟨oD, eD, pD⟩ := eD
  have S₂ := S.take X hnD hBD eD pD
  refine args_cons (List_ (args_nil ?_))
  refine mkLst S₂ fun h₃ P hnP S₃ => ?_
  refine args_nil (mkTup S₃ fun B₂ h₄ t le et S₄ => ?_)
  refine asgT R.quiet S₄ et rfl rfl fun h₅ S₅ => ?_
  refine assignInOrder_cons (wpAny_assign_Name ?_)
  walk_at "storeName"
  intro h₆ tk₆ S₆
  refine assignInOrder_cons (wpAny_assign_Name ?_)
  walk_at "storeName"
  intro h₇ tk₇ S₇
  refine assignInOrder_nil (wpAny_execs_cons (wpAny_For (Call_ ?_)))
  walk_at "N"
  refine cType (args_cons (Subscript_ (Call_ ?_)))
  walk_at "N"
  have T₂ := T.le S₇.mono
  refine callF T (by k_dflt k_is) (args_cons ?_)
  walk_at "N"
  refine args_nil ⟨S₇.sub.of_le S₇.mono, ?_⟩
  refine shape_ok (P := RatV) T₂ S₇.sub ((R.deeper _).le (by omega)) ⟨l, vs, c, rfl, S₇.mono _ _ hl, pMono RowV.mono S₇.mono hp⟩ hD fun B₃ h₈ tk₈ t₂ x y X₂ et₂ => ?_
  have S₈ := S₇.ext X₂
  refine cI fun _ tk₉ => itemT S₈ et₂ (by decide) (by decide) rfl (args_nil ?_)
  refine mkRange1 S₈ fun B₄ h₉ r t₃ u₃ v₃ tk₁₀ le₄ er S₉ => ?_
  refine iterR "column" R.quiet S₉ er (by decide) (by decide) (by omega) (by omega) fun h₁₀ I IT hN st S₁₀ => ?_
  have en : ((wd M : Int) - 0).toNat = wi := by omega
  rw [en] at IT
  have T₁₁ := T.le S₁₀.mono
  have S₁₁ := S₁₀.forget (m' := mL [("found", .ref D), ("pivots", .ref P)]) (mL_forget (by walk_at "known"))
  refine forLoop (fun i B m ps => ∃ vs pvs, m = mL [("found", .ref D), ("pivots", .ref P)] ∧ ps = [(P, LstP pvs), (D, LstP vs)] ∧ Paired (RowV B) (echTo M i).1 vs ∧ Paired (IntV B) (nats (echTo M i).2) pvs)
    (IT _) canC' hN (List.mem_cons_self ..) S₁₁ st ⟨vs₁, [], rfl, rfl, pMono RowV.mono (le.trans (X₂.le.trans le₄)) hp₁, .nil⟩ ?_ ?_
  · rintro i B₅ m₁ m₂ ps₁ h₁₁ tk₁₁ E' hi le ⟨vs, pvs, rfl, rfl, hpf, hpp⟩ ⟨_, ⟨tc, rfl⟩, rfl⟩ F
    have C := hC i (by omega)
    have lp : pvs.length = (echTo M i).2.length := by rw [pLen hpp]; simp [nats]
    have es := echTo_succ M i
    have hpow := pow_le hk hi
    obtain ⟨CR, CB, CL, -⟩ := C
    generalize hst : echTo M i = st at *
    obtain ⟨F₀, pv⟩ := st
    have lv : vs.length = n := by rw [pLen hpf]; exact CR.1
    have lpi : pvs.length ≤ i := by rw [lp]; exact CL
    have hRF : Rect n wi F₀ := CR
    have hBF : Bnd (k * 5 ^ i) F₀ := CB
    have T₅ := T₁₁.le le
    refine wpAny_execs_cons (wpAny_Assign_Name (Call_ ?_))
    walk_at "N"
    refine cBuilt (args_cons ?_)
    walk_at "N"
    refine args_nil (lenL (F.plain (List.mem_append_left _ (List.mem_cons_self ..))) (by omega) fun t₁ tk₁₂ => ?_)
    walk_at "storeName"
    intro h₁₂ tk₁₃ F₁
    refine wpAny_execs_cons ?_
    refine' comp_assign [("found", L + 1), ("column", L + 1 + 1)] ?hsw ?hcl ?hk ?hn ?hg ?hs
    walk_at "comp"
    refine Call_ ?_
    -- 1
    walk_at "N"
    -- 2
    refine cType (args_cons ?_)
    -- 3
    walk_at "N"
    -- 4
    refine args_cons (Call_ ?_)
    -- 5
    walk_at "N"
    refine cBuilt (args_cons ?_)
    -- 6
    walk_at "N"
    refine args_nil (lenL (F₁.plain (a := D) (vs := vs) (by simp)) (by omega) fun t₂ tk₁₄ => args_nil ?_)
    refine mkRange2 F₁ fun B₆ h₁₃ r₂ ta tb tc' tk₁₅ le₆ er₂ F₂ => ?_
    refine iterR "at" R.quiet F₂ er₂ (by omega) (by omega) (by omega) (by omega) fun h₁₄ I₂ IT₂ hN₂ st₂ F₃ => ?_
    have F₃h := F₃.hide (List.mem_cons_self ..) hN₂.2 hN₂.1
    have plD := F₃h.plain (a := D) (vs := vs) (by simp)
    have T₆ := T₅.le le₆
    refine comp_pure (fun j B₁ ys => Paired (IntV B₁) (nats (spotTo F₀ i pvs.length j)) ys) (IT₂ _) hN₂ st₂ F₃ (List.mem_cons_self ..) .nil
      (fun _ _ _ l g => g) (fits (by omega)) ["found", "column"] (by walk_at "cells known") (fun _ => rfl) (by decide +kernel) (fun C => canL (List.mem_cons_self ..)) ?_ ?_
    · rintro C D' j B₇ m₂ ys h₁₅ tk₁₆ E₂ hj _ le₇ g ⟨_, ⟨tj, rfl⟩, rfl⟩ G
      refine tests_one (wpAny_isTrue_Compare1 (Subscript_ (Subscript_ ?_)))
      walk_at "N"
      walk_at "N"
      have hjn : pvs.length + j < n := by omega
      obtain ⟨y, hy, lr, vr, cr, rfl, hlr, hpr⟩ := pGet hpf (get_getD [] (i := pvs.length + j) (by rw [hRF.1]; omega))
      have lrow := hRF.row hjn
      obtain ⟨z, hz, hzr⟩ := pGet hpr (get_getD 0 (i := i) (by rw [lrow]; omega))
      have plG : h₁₅.PlainList D vs.toArray := plD.at fun o e => G.keep D o (by simp) e
      refine itemL plG (by omega) (by omega) (by rw [show ((pvs.length : Int) + (j : Int)).toNat = pvs.length + j by omega]; exact hy) ?_
      walk_at "N"
      refine itemL (pln_of G.sub ((le₆.trans le₇) _ _ hlr)) (by omega) (by omega) (by rw [show (((0 : Int) + (i : Int))).toNat = i by omega]; exact hz) ?_
      walk_at "N"
      refine neR0 G (hzr.le (le₆.trans le₇)) ((R0_ok T₆).le G.mono) ((R.deeper _).le (by omega)) (wpAny_truthy_bool ?_)
      have g' := g
      by_cases h0 : (F₀.getD (pvs.length + j) []).getD i 0 = 0
      · rw [if_neg (by simpa using h0)]
        refine ⟨B₇, _, h₁₅, _, rfl, .rfl, ?_, mc_upd rfl, G⟩
        show Paired _ (nats (spotTo F₀ i pvs.length (j + 1))) ys
        rw [spotTo_succ, if_neg (by simpa using h0), List.append_nil]; exact g
      · rw [if_pos (by simpa using h0)]
        walk_at "N"
        refine ⟨B₇, _, h₁₅, _, rfl, .rfl, ?_, mc_upd rfl, G⟩
        show Paired _ (nats (spotTo F₀ i pvs.length (j + 1))) (ys ++ [_])
        rw [spotTo_succ, if_pos h0, nats_append]
        exact pAppend g (.cons ⟨tj, by simp⟩ .nil)
    · intro C D' B₇ c₂ ys h₁₅ tk₁₆ hC' le₇ g hys eD' G
      refine comp_some' "spots" G (List.mem_cons_self ..) (fun x c hc q => hC'.2 x c hc (List.mem_singleton.mpr q)) (hC'.1 _ (List.mem_singleton.mpr rfl)) (canL (List.mem_cons_self ..)) fun h₁₆ tk₁₇ G₁ => ?_
      have espot : spotTo F₀ i pvs.length (vs.length - pvs.length) = spot F₀ i pvs.length := by rw [spotTo, spot, lv, hRF.1]
      have g : Paired (IntV B₇) (nats (spot F₀ i pvs.length)) ys := by
        rw [← espot, show vs.length - pvs.length = ((vs.length : Int) - (pvs.length : Int)).toNat by omega]; exact g
      have T₇ := T.le G₁.mono
      have le₆₇ := le₆.trans le₇
      refine wpAny_execs_cons (wpAny_If (wpAny_isTrue_Compare1 (Call_ ?_)))
      walk_at "N"
      refine cBuilt (args_cons ?_)
      walk_at "N"
      refine args_nil (lenL (pln_of G₁.sub eD') (by omega) fun t₅ tk₁₈ => cI fun _ tk₁₉ => PyProof.Rows.eq_int (wpAny_truthy_bool ?_))
      cases hs : (spot F₀ i pvs.length).head? with
      | none =>
        have e0 : spot F₀ i pvs.length = [] := List.head?_eq_none_iff.mp hs
        rw [e0] at g
        cases g
        rw [if_pos (by rfl)]
        refine wpAny_execs_cons (wpAny_Continue ?_)
        have e1 : echTo M (i + 1) = (F₀, pv) := by rw [es, echStep, ← lp, hs]
        refine ⟨B₇, _, _, h₁₆, _, rfl, le₆₇, ⟨vs, pvs, rfl, rfl, ?_, ?_⟩, G₁.forget (mL_forget (by walk_at "known"))⟩
        · rw [e1]; exact pMono RowV.mono le₆₇ hpf
        · rw [e1]; exact hpp
      | some p =>
        obtain ⟨hp1, hp2, hp3⟩ := spot_mem hs
        rw [hRF.1] at hp2
        have hr : pvs.length < n := by omega
        have hp0 : (nats (spot F₀ i pvs.length))[0]? = some (p : Int) := by rw [nats, List.getElem?_map, ← List.head?_eq_getElem?, hs]; rfl
        obtain ⟨y0, hy0, t0, rfl⟩ := pGet g hp0
        have l0 : 0 < ys.length := (List.getElem?_eq_some_iff.mp hy0).1
        rw [if_neg (by rw [beq_iff_eq]; omega)]
        refine wpAny_execs_nil (wpAny_execs_cons (wpAny_Expr (Call_ ?_)))
        walk_at "N"
        refine callF T₇ (by k_dflt k_is) (args_cons ?_)
        walk_at "N"
        refine args_cons ?_
        walk_at "N"
        refine args_cons (Subscript_ ?_)
        walk_at "N"
        refine cI fun _ tk₂₀ => itemL (pln_of G₁.sub eD') (by decide) (by decide) hy0 (args_nil ⟨G₁.sub, ?_⟩)
        have hpf7 := pMono RowV.mono le₆₇ hpf
        obtain ⟨yi, hyi, hyr⟩ := pGet hpf7 (get_getD [] (i := pvs.length) (by rw [hRF.1]; omega))
        obtain ⟨yp, hyp, hypr⟩ := pGet hpf7 (get_getD [] (i := p) (by rw [hRF.1]; omega))
        refine swap_rows_ok (i := pvs.length) (j := p) T₇ G₁.sub ((R.deeper _).le (by omega)) (G₁.ents (D, LstP vs) (by simp)) (G₁.apart D (by simp)) hyi hyp (by omega) fun B₈ h₁₇ tk₂₁ X₃ e₃ => ?_
        have G₂ := G₁.extW1 [(P, LstP pvs)] (ps₂ := Hold h₁₁ [I]) X₃ e₃
        have hpf1 : Paired (RowV B₈) (swp pvs.length p F₀) ((vs.set pvs.length yp).set p yi) := pMono RowV.mono X₃.le (pSet _ (pSet _ hpf7 hypr) hyr)
        obtain ⟨vs1, hvs1⟩ : ∃ vs1, vs1 = (vs.set pvs.length yp).set p yi := ⟨_, rfl⟩
        have lv1 : vs1.length = n := by rw [hvs1, List.length_set, List.length_set]; exact lv
        rw [← hvs1] at G₂ hpf1
        have R1 := hRF.swp hr hp2
        have BF1 := hBF.swp (i := pvs.length) (j := p) (by rw [hRF.1]; exact hr) (by rw [hRF.1]; exact hp2)
        have hld : ((swp pvs.length p F₀).getD pvs.length []).getD i 0 ≠ 0 := by rw [swp_row hRF hr hp2]; exact hp3
        have hBs := scaled_bnd R1 hr hi BF1 hld
        have hsr := scale_row (c := i) R1 hr
        have R2 := R1.scale (c := i) hr
        have est : echTo M (i + 1) = (elim pvs.length i (scale pvs.length i (swp pvs.length p F₀)), pv ++ [i]) := by rw [es, echStep, ← lp, hs]
        generalize swp pvs.length p F₀ = F1 at *
        have lrow1 := R1.row hr
        have brow1 := BF1 _ (getD_mem (d := ([] : List Rat)) (show pvs.length < F1.length by rw [R1.1]; exact hr))
        obtain ⟨y1, hy1, lr1, vr1, cr1, rfl, hlr1, hpr1⟩ := pGet hpf1 (get_getD [] (i := pvs.length) (by rw [R1.1]; omega))
        generalize hr1 : F1.getD pvs.length [] = r1 at *
        obtain ⟨z1, hz1, hz1r⟩ := pGet hpr1 (get_getD 0 (i := i) (by rw [lrow1]; omega))
        have bld := brow1 _ (getD_mem (d := (0 : Rat)) (show i < r1.length by rw [lrow1]; exact hi))
        generalize hld1 : r1.getD i 0 = ld at *
        refine wpAny_execs_cons (wpAny_Assign_Name (Subscript_ (Subscript_ ?_)))
        walk_at "N"
        walk_at "N"
        refine itemL (G₂.plain (a := D) (vs := vs1) (by simp)) (by omega) (by omega) (by rw [Int.toNat_natCast]; exact hy1) ?_
        walk_at "N"
        refine itemL (pln_of G₂.sub hlr1) (by omega) (by omega) (by rw [show (((0 : Int) + (i : Int))).toNat = i by omega]; exact hz1) ?_
        walk_at "storeName"
        intro h₁₈ tk₂₂ G₃
        refine wpAny_execs_cons (wpAny_Assign_Subscript ?_)
        refine' comp_start [("lead", L + 1 + 1 + 1)] ?hcl2 ?hk2 ?hn2 ?hg2 ?hs2
        case hcl2 => rfl
        case hk2 => rfl
        case hn2 => decide
        case hs2 => exact fun _ => rfl
        refine Subscript_ ?_
        walk_at "N"
        walk_at "N"
        refine itemL (G₃.plain (a := D) (vs := vs1) (by simp)) (by omega) (by omega) (by rw [Int.toNat_natCast]; exact hy1) ?_
        refine iterL "one" R.quiet G₃ hlr1 fun h₁₉ I₃ IT₃ hN₃ st₃ G₄ => ?_
        have lvr1 := pLen hpr1
        have T₈ := T.le G₃.mono
        refine comp_pure (fun j B₁ ys => Paired (RatV B₁) ((r1.map fun x => x / ld).take j) ys) (IT₃ _) hN₃ st₃ G₄ (List.mem_cons_self ..) .nil
          (fun _ _ _ l g => pMono RatV.mono l g) (fits (by omega)) ["lead"] (by walk_at "cells known") (fun _ => rfl) (by decide +kernel) (fun C => canL (List.mem_cons_self ..)) ?_ ?_
        · rintro C D' j B₉ m₃ zs h₂₀ tk₂₃ E₃ hj _ le₉ g ⟨o, ho, rfl⟩ K
          refine tests_nil ?_
          rw [if_pos rfl]
          obtain ⟨x, hx, ox⟩ := pGet' hpr1 ho
          refine Call_ ?_
          walk_at "N"
          refine callF T₈ (by k_dflt k_is) (args_cons ?_)
          walk_at "N"
          refine args_cons ?_
          walk_at "N"
          refine args_nil ⟨K.sub.of_le K.mono, ?_⟩
          refine rdiv_ok (T₈.le K.mono) K.sub ((R.deeper _).le (by omega)) (ox.le le₉) (hz1r.le le₉) (brow1 _ (List.mem_of_getElem? hx)) bld (by omega) hld fun B₁₀ h₂₁ tk₂₄ v₂ X₄ hv₂ => ?_
          refine ⟨B₁₀, _, h₂₁, _, rfl, X₄.le, pSnocTake (pMono RatV.mono X₄.le g) (by rw [List.getElem?_map, hx]; rfl) hv₂, mc_upd rfl, K.ext X₄⟩
        · intro C D' B₉ c₃ zs h₂₀ tk₂₃ hC3 le₉ g _ eD3 K
          refine comp_none K (List.mem_cons_self ..) (fun x c hc q => hC3.2 x c hc (List.mem_singleton.mpr q)) (hC3.1 _ (List.mem_singleton.mpr rfl)) fun h₂₁ K₁ => ?_
          walk_at "N"
          walk_at "N"
          refine setP [(P, LstP pvs)] (ps₂ := Hold h₁₁ [I]) K₁ (by omega) (by omega) (by rw [Int.toNat_natCast, lv1]; exact hr) fun h₂₂ K₂ => ?_
          rw [Int.toNat_natCast] at K₂
          have hpf2 : Paired (RowV B₉) (scale pvs.length i F1) (vs1.set pvs.length (.ref D')) := by
            rw [scale, hr1, hld1]
            exact pSet _ (pMono RowV.mono le₉ hpf1) ⟨_, _, _, rfl, eD3, pWhole g (by rw [List.length_map]; exact lvr1)⟩
          obtain ⟨vs2, hvs2⟩ : ∃ vs2, vs2 = vs1.set pvs.length (.ref D') := ⟨_, rfl⟩
          have lv2 : vs2.length = n := by rw [hvs2, List.length_set]; exact lv1
          rw [← hvs2] at K₂ hpf2
          clear hvs2
          have hR2' := R2
          generalize hF2 : scale pvs.length i F1 = F2 at *
          refine wpAny_execs_cons (wpAny_For (Call_ ?_))
          walk_at "N"
          refine cType (args_cons (Call_ ?_))
          walk_at "N"
          refine cBuilt (args_cons ?_)
          walk_at "N"
          refine args_nil (lenL (K₂.plain (a := D) (vs := vs2) (by simp)) (by omega) fun t₆ tk₂₄ => args_nil ?_)
          refine mkRange1 K₂ fun B₁₀ h₂₃ r₃ ta3 tb3 tc3 tk₂₅ le₁₀ er₃ K₃ => ?_
          refine iterR "other" R.quiet K₃ er₃ (by decide) (by decide) (by omega) (by omega) fun h₂₄ I₄ IT₄ hN₄ st₄ K₄ => ?_
          have K₅ := K₄.forget (m' := mL [("found", .ref D), ("pivots", .ref P), ("row", .int pvs.length t₁), ("column", .int (0 + i) tc)]) (mL_forget (by walk_at "known"))
          refine forLoop (fun j B m ps => ∃ ws, m = mL [("found", .ref D), ("pivots", .ref P), ("row", .int pvs.length t₁), ("column", .int (0 + i) tc)] ∧ ps = [(P, LstP pvs)] ++ (D, LstP ws) :: Hold h₁₁ [I] ∧ Paired (RowV B) (elimTo j pvs.length i F2) ws)
            (IT₄ _) (canL (List.mem_cons_self ..)) hN₄ (List.mem_cons_self ..) K₅ st₄ ⟨vs2, rfl, rfl, by rw [elimTo_zero]; exact pMono RowV.mono le₁₀ hpf2⟩ ?_ ?_
          · rintro j B₁₁ m₁ m₂ ps₁ h₂₅ tk₂₆ E₄ hj le₁₁ ⟨ws, rfl, rfl, hws⟩ ⟨_, ⟨tj, rfl⟩, rfl⟩ N
            have hjn : j < n := by omega
            have T₁₁ := T.le N.mono
            have lw : ws.length = n := by rw [pLen hws, elimTo_len]; exact R2.1
            have RE := R2.elimTo (n := j) (c := i) hr
            have ej := elimTo_same j pvs.length i F2
            have er := elimTo_row j pvs.length i F2
            have hlt : j < (elimTo j pvs.length i F2).length := by rw [RE.1]; exact hjn
            have hlr : pvs.length < (elimTo j pvs.length i F2).length := by rw [RE.1]; exact hr
            refine wpAny_execs_cons (wpAny_If (isTrue_and (wpAny_isTrue_Compare1 ?_)))
            walk_at "N"
            walk_at "N"
            refine PyProof.Rows.ne_int (wpAny_truthy_bool ?_)
            by_cases hjr : j = pvs.length
            · rw [if_neg (by simp [hjr]), if_neg (by simp)]
              refine wpAny_execs_nil (wpAny_execs_nil ?_)
              exact ⟨B₁₁, _, _, h₂₅, _, rfl, .rfl, ⟨ws, rfl, rfl, by rw [elimTo_skip R2 hr (.inl hjr)]; exact hws⟩, N.forget (mL_forget (by walk_at "known"))⟩
            rw [if_pos (by rw [bne_iff_ne]; omega)]
            obtain ⟨y, hy, lr, vr, cr, rfl, hlr', hpr⟩ := pGet hws (get_getD [] hlt)
            rw [ej] at hpr
            have lrow := R2.row hjn
            obtain ⟨z, hz, hzr⟩ := pGet hpr (get_getD 0 (i := i) (by rw [lrow]; omega))
            refine isTrue_and (wpAny_isTrue_Compare1 (Subscript_ (Subscript_ ?_)))
            walk_at "N"
            walk_at "N"
            refine itemL (N.plain (a := D) (vs := ws) (by simp)) (by omega) (by omega) (by rw [show ((0 : Int) + (j : Int)).toNat = j by omega]; exact hy) ?_
            walk_at "N"
            refine itemL (pln_of N.sub hlr') (by omega) (by omega) (by rw [show (((0 : Int) + (i : Int))).toNat = i by omega]; exact hz) ?_
            walk_at "N"
            refine neR0 N hzr (R0_ok T₁₁) ((R.deeper _).le (by omega)) (wpAny_truthy_bool ?_)
            by_cases h0 : (F2.getD j []).getD i 0 = 0
            · rw [if_neg (by simpa using h0), if_neg (by simp)]
              refine wpAny_execs_nil (wpAny_execs_nil ?_)
              exact ⟨B₁₁, _, _, h₂₅, _, rfl, .rfl, ⟨ws, rfl, rfl, by rw [elimTo_skip R2 hr (.inr h0)]; exact hws⟩, N.forget (mL_forget (by walk_at "known"))⟩
            rw [if_pos (by simpa using h0)]
            refine isTrue_and_nil ?_
            rw [if_pos rfl]
            refine wpAny_execs_cons (wpAny_Expr (Call_ ?_))
            walk_at "N"
            refine callF T₁₁ (by k_dflt k_is) (args_cons ?_)
            walk_at "N"
            refine args_cons ?_
            walk_at "N"
            refine args_cons ?_
            walk_at "N"
            refine args_cons (Subscript_ (Subscript_ ?_))
            walk_at "N"
            walk_at "N"
            refine itemL (N.plain (a := D) (vs := ws) (by simp)) (by omega) (by omega) (by rw [show ((0 : Int) + (j : Int)).toNat = j by omega]; exact hy) ?_
            walk_at "N"
            refine itemL (pln_of N.sub hlr') (by omega) (by omega) (by rw [show (((0 : Int) + (i : Int))).toNat = i by omega]; exact hz) (args_nil ⟨N.sub, ?_⟩)
            have eF2 : F2[j]? = some (F2.getD j []) := get_getD [] (by rw [R2.1]; exact hjn)
            have hbr := hBs.1 j _ eF2 hjr
            rw [Int.zero_add]
            refine take_off_ok (i := j) (j := pvs.length) T₁₁ N.sub ((R.deeper _).le (by omega)) (N.ents (D, LstP ws) (by simp)) (N.apart D (by simp)) hws ⟨by rw [RE.1]; omega, fun r hr => by rw [RE.2 r hr]; omega⟩
              (by rw [get_getD [] hlt, ej]) (by rw [get_getD [] hlr, er]) (by rw [lrow, R2.row hr]) hzr hbr hBs.2 (hbr _ (getD_mem (by rw [lrow]; exact hi))) (by omega) fun B₁₂ h₂₆ tk₂₇ y2 X₅ e₅ hy2 => ?_
            have N₁ := N.extW1 [(P, LstP pvs)] (ps₂ := Hold h₁₁ [I] ++ Hold h₂₅ [I₄]) X₅ e₅
            refine wpAny_execs_nil (wpAny_execs_nil ?_)
            refine ⟨B₁₂, _, [(P, LstP pvs)] ++ (D, LstP (ws.set j y2)) :: Hold h₁₁ [I], h₂₆, _, rfl, X₅.le, ⟨_, rfl, rfl, ?_⟩, N₁.forget (mL_forget (by walk_at "known"))⟩
            rw [elimTo_succ hjr]
            exact pSet _ (pMono RowV.mono X₅.le hws) hy2
          · rintro B₁₁ m₁ ps₁ h₂₅ tk₂₆ le₁₁ ⟨ws, rfl, rfl, hws⟩ N
            refine wpAny_execs_cons (wpAny_Expr (MethodCall_ ?_))
            walk_at "N"
            refine getApp (N.plain (a := P) (vs := pvs) (by simp)) (callWith_method1 (args_cons ?_))
            walk_at "N"
            refine args_nil (appP [] (ps₂ := (D, LstP ws) :: Hold h₁₁ [I]) N (fits (by omega)) fun h₂₆ N₁ => wpAny_execs_nil ?_)
            have leE := le₆₇.trans (X₃.le.trans (le₉.trans (le₁₀.trans le₁₁)))
            refine ⟨B₁₁, _, [(P, _), (D, _)], h₂₆, _, rfl, leE, ⟨ws, _, rfl, rfl, ?_, ?_⟩, N₁.forget (mL_forget (by walk_at "known"))⟩
            · rw [est]
              have en2 : ((vs2.length : Int) - 0).toNat = n := by omega
              rw [en2] at hws
              rw [elim, R2.1]; exact hws
            · rw [est]
              show Paired _ (nats (pv ++ [i])) _
              rw [nats_append]
              exact pAppend hpp (.cons ⟨tc, by simp⟩ .nil)
  · rintro B₅ m₁ ps₁ h₁₁ tk₁₁ le ⟨vs, pvs, rfl, rfl, hpf, hpp⟩ F
    refine wpAny_execs_cons (wpAny_Return_some (Tuple_ (args_cons ?_)))
    walk_at "N"
    refine args_cons ?_
    walk_at "N"
    refine args_nil (mkTup F fun B₆ h₁₂ t' le₂ et₂ F₂ => ?_)
    obtain ⟨B₇, le₃, ⟨oP, eP, cP, rfl⟩, F₃⟩ := F₂.freeze (by simp)
    obtain ⟨B₈, le₄, ⟨oD', eD', cD, rfl⟩, F₄⟩ := F₃.freeze (by simp)
    have e : ech M = echTo M wi := by rw [ech, hw]
    refine hq B₈ h₁₂ _ t' _ _ F₄.toExt (le₄ _ _ (le₃ _ _ et₂)) ⟨_, _, _, rfl, eD', ?_⟩ ⟨_, _, _, rfl, le₄ _ _ eP, ?_⟩
    · rw [e]; exact pMono RowV.mono (le₂.trans (le₃.trans le₄)) hpf
    · rw [e]; exact hpp
end
section
variable {prog : Program} {w : World} {A : Around} {E : Value → Shared → Prop} {s : Shared} {h : Heap} {tk : Nat} {B : Base} {Q : Value → Shared → Prop}

set_option maxHeartbeats 4000000 in
theorem rank_ok (T : Tp (Mine.hd.heap_39 w.params) B) (sub : B.In h) (R : Room 6 A) {M : List (List Rat)} {v : Value} {k n wi : Nat} (hv : MatV B M v) (hR : Rect n wi M) (hw : wd M = wi) (hn : n ≤ 100) (hwi : wi ≤ 100)
    (hb : Bnd k M) (hk0 : 0 < k) (hk : k * 5 ^ wi ≤ 9000)
    (hq : ∀ B' h' tk' t, Ext B h B' h' → Q (.int (ech M).2.length t) (mk s h' tk')) :
    wpAny (model prog w) A (call (.ref 126) [v]) Q E (mk s h tk) := by
  have hC := cols hR hb hk0
  have hl := (hC wi (Nat.le_refl _)).len
  refine' enter (binds := [("a", v)]) [] T sub ?he .nil ?hB ?hf ?hcd ?hroom ?hbind ?hkind ?hh ?hcn ?hco ?hgen ?hk
  walk_at "no things"
  walk_at "call the def"
  intro L h₁ tk₁ hL S
  refine wpAny_execs_cons (wpAny_Return_some (Call_ ?_))
  walk_at "N"
  refine cBuilt (args_cons (Subscript_ (Call_ ?_)))
  walk_at "N"
  refine callF T (by k_dflt k_is) (args_cons ?_)
  walk_at "N"
  refine args_nil ⟨S.sub, ?_⟩
  refine echelon_ok T S.sub ((R.deeper _).le (by omega)) hv hR hw hn hwi hb hk0 hk fun B₁ h₂ tk₂ t f p X et hf hp => ?_
  have S₁ := S.ext X
  obtain ⟨lp, pvs, c, rfl, hlp, hpp⟩ := hp
  refine cI fun _ tk₃ => itemT S₁ et (by decide) (by decide) rfl (args_nil ?_)
  have e : pvs.length = (ech M).2.length := by rw [pLen hpp]; simp [nats]
  have hl : (ech M).2.length ≤ wi := by rw [ech, hw]; exact hl
  refine lenL (pln_of S₁.sub hlp) (by omega) fun t₁ tk₄ => ?_
  rw [e]
  exact hq _ _ _ _ S₁.toExt

set_option maxHeartbeats 4000000 in
theorem null_base_ok (T : Tp (Mine.hd.heap_39 w.params) B) (sub : B.In h) (R : Room 6 A) {M : List (List Rat)} {v : Value} {k n wi : Nat} (hv : MatV B M v) (hR : Rect n wi M) (hw : wd M = wi) (hn : n ≤ 100) (hwi : wi ≤ 100)
    (hb : Bnd k M) (hk0 : 0 < k) (hk : k * 5 ^ wi ≤ 9000)
    (hq : ∀ B' h' tk' v', Ext B h B' h' → MatV B' (nullBase M) v' → Q v' (mk s h' tk')) :
    wpAny (model prog w) A (call (.ref 133) [v]) Q E (mk s h tk) := by
  have hD : Dims M := ⟨by rw [hR.1]; omega, fun r hr => by rw [hR.2 r hr]; omega⟩
  have hC := cols hR hb hk0
  have hlen := echTo_lenle hC wi (Nat.le_refl _)
  have hlt := (hC wi (Nat.le_refl _)).lt
  have hEr := (hC wi (Nat.le_refl _)).rect
  have ee : ech M = echTo M wi := by rw [ech, hw]
  have enb : nullBase M = nullBaseTo (ech M).1 (ech M).2 wi wi := by rw [nullBase, hw]
  rw [← ee] at hlen hlt hEr
  refine' enter (binds := [("a", v)]) [] T sub ?he .nil ?hB ?hf ?hcd ?hroom ?hbind ?hkind ?hh ?hcn ?hco ?hgen ?hk
  walk_at "no things"
  walk_at "call the def"
  intro L h₁ tk₁ hL S
  refine wpAny_execs_cons (Assign_Tuple (Call_ ?_))
  walk_at "N"
  refine callF T (by k_dflt k_is) (args_cons ?_)
  walk_at "N"
  refine args_nil ⟨S.sub, ?_⟩
  refine echelon_ok T S.sub ((R.deeper _).le (by omega)) hv hR hw hn hwi hb hk0 hk fun B₁ h₂ tk₂ t f p X et hf hp => ?_
  generalize ech M = EE at *
  obtain ⟨EM, pv⟩ := EE
  have S₁ := S.ext X
  obtain ⟨lf, fvs, cf, rfl, hlf, hpf⟩ := hf
  obtain ⟨lp, pvs, cp, rfl, hlp, hpp⟩ := hp
  have lpv : pvs.length = pv.length := by rw [pLen hpp]; simp [nats]
  have lfv : fvs.length = n := by rw [pLen hpf]; exact hEr.1
  replace hlen : pv.length ≤ n := hlen
  refine asgT R.quiet S₁ et rfl rfl fun h₃ S₂ => ?_
  refine assignInOrder_cons (wpAny_assign_Name ?_)
  walk_at "storeName"
  intro h₄ tk₄ S₃
  refine assignInOrder_cons (wpAny_assign_Name ?_)
  walk_at "storeName"
  intro h₅ tk₅ S₄
  refine assignInOrder_nil (wpAny_execs_cons (wpAny_Assign_Name (List_ (args_nil ?_))))
  refine mkLst S₄ fun h₆ P hnP S₅ => ?_
  walk_at "storeName"
  intro h₇ tk₇ S₆
  refine wpAny_execs_cons (wpAny_For (Call_ ?_))
  walk_at "N"
  refine cType (args_cons (Subscript_ (Call_ ?_)))
  walk_at "N"
  have T₆ := T.le S₆.mono
  refine callF T₆ (by k_dflt k_is) (args_cons ?_)
  walk_at "N"
  refine args_nil ⟨S₆.sub, ?_⟩
  refine shape_ok (P := RatV) T₆ S₆.sub ((R.deeper _).le (by omega)) (MatV.mono _ _ _ _ S₆.mono hv) hD fun B₃ h₈ tk₈ t₂ x y X₂ et₂ => ?_
  have S₈ := S₆.ext X₂
  refine cI fun _ tk₉ => itemT S₈ et₂ (by decide) (by decide) rfl (args_nil ?_)
  refine mkRange1 S₈ fun B₄ h₉ r t₃ u₃ v₃ tk₁₀ le₄ er S₉ => ?_
  refine iterR "column" R.quiet S₉ er (by decide) (by decide) (by omega) (by omega) fun h₁₀ I IT hN st S₁₀ => ?_
  have en : ((wd M : Int) - 0).toNat = wi := by omega
  rw [en] at IT
  have S₁₁ := S₁₀.forget (m' := mL [("reduced", .ref lf), ("pivots", .ref lp), ("found", .ref P), ("a", v)]) (mL_forget (by walk_at "known"))
  have le14 : B₁.le B₄ := X₂.le.trans le₄
  refine forLoop (fun i B m ps => ∃ ys, m = mL [("reduced", .ref lf), ("pivots", .ref lp), ("found", .ref P), ("a", v)] ∧ ps = [(P, LstP ys)] ∧ Paired (RowV B) (nullBaseTo EM pv wi i) ys)
    (IT _) (canL (List.mem_cons_self ..)) hN (List.mem_cons_self ..) S₁₁ st ⟨[], rfl, rfl, .nil⟩ ?_ ?_
  · rintro i B₅ m₁ m₂ ps₁ h₁₁ tk₁₁ E' hi le ⟨ys, rfl, rfl, hys⟩ ⟨_, ⟨tc, rfl⟩, rfl⟩ F
    have le15 := le14.trans le
    have T₅ := T.le F.mono
    have lys : ys.length ≤ i := by
      rw [pLen hys, nullBaseTo, List.length_map]
      exact Nat.le_trans (List.length_filter_le ..) (by simp)
    refine wpAny_execs_cons (wpAny_If (wpAny_isTrue_Compare1 ?_))
    walk_at "N"
    walk_at "N"
    refine inInts (pln_of F.sub (le15 _ _ hlp)) hpp (wpAny_truthy_bool ?_)
    by_cases hin : i ∈ pv
    · rw [if_pos (by rw [decide_eq_true_eq, Int.zero_add]; exact nats_mem.mpr hin)]
      refine wpAny_execs_cons (wpAny_Continue ?_)
      exact ⟨B₅, _, _, h₁₁, _, rfl, .rfl, ⟨ys, rfl, rfl, by rw [nullBaseTo_in hin]; exact hys⟩, F.forget (mL_forget (by walk_at "known"))⟩
    rw [if_neg (by rw [decide_eq_true_eq, Int.zero_add]; exact fun q => hin (nats_mem.mp q))]
    refine wpAny_execs_nil (wpAny_execs_cons (wpAny_Assign_Name (wpAny_BinOp (List_ (args_cons ?_)))))
    walk_at "N"
    refine args_nil (mkLstB F fun B₆ h₁₂ l₀ le₆ e₀ F₁ => Subscript_ (Call_ ?_))
    walk_at "N"
    have T₆ := T.le F₁.mono
    refine callF T₆ (by k_dflt k_is) (args_cons ?_)
    walk_at "N"
    refine args_nil ⟨F₁.sub, ?_⟩
    refine shape_ok (P := RatV) T₆ F₁.sub ((R.deeper _).le (by omega)) (MatV.mono _ _ _ _ F₁.mono hv) hD fun B₇ h₁₃ tk₁₃ t₄ x₄ y₄ X₄ et₄ => ?_
    have F₂ := F₁.ext X₄
    refine cI fun _ tk₁₄ => itemT F₂ et₄ (by decide) (by decide) rfl ?_
    refine mulList F₂ (pln_of F₂.sub (X₄.le _ _ e₀)) (by omega) fun h₁₄ D hnD F₃ => ?_
    walk_at "storeName"
    intro h₁₅ tk₁₅ F₄
    refine wpAny_execs_cons (wpAny_Assign_Subscript ?_)
    walk_at "N"
    walk_at "N"
    walk_at "N"
    refine setP [] F₄ (by omega) (by omega) (by rw [List.length_replicate, hw]; omega) fun h₁₆ F₅ => ?_
    rw [show ((0 : Int) + (i : Int)).toNat = i by omega, hw] at F₅
    refine wpAny_execs_cons (wpAny_For (Call_ ?_))
    walk_at "N"
    refine cType (args_cons ?_)
    walk_at "N"
    have le57 := le₆.trans X₄.le
    refine args_nil (enumL "at" "spot" R.quiet F₅ (le57 _ _ (le15 _ _ hlp)) fun h₁₇ e it IT₂ hN₂ st₂ F₆ => ?_)
    refine (IT₂ default default 0 default).self 0 (mk s h₁₇ _) _ _ st₂ ?_
    have F₇ := F₆.forget (m' := mL [("reduced", .ref lf), ("pivots", .ref lp), ("found", .ref P), ("a", v), ("one", .ref D), ("column", .int (0 + i) tc)]) (mL_forget (by walk_at "known"))
    refine forLoop (fun j B m ps => ∃ zs, m = mL [("reduced", .ref lf), ("pivots", .ref lp), ("found", .ref P), ("a", v), ("one", .ref D), ("column", .int (0 + i) tc)] ∧ ps = (D, LstP zs) :: (P, LstP ys) :: Hold h₁₁ [I] ∧ Paired (RatV B) (nullTo EM pv wi i j) zs)
      (IT₂ _ _ _ _) ⟨canL (List.mem_cons_self ..), canL (List.mem_cons_self ..)⟩ hN₂ (List.mem_cons_self ..) F₇ st₂ ⟨_, rfl, rfl, ?_⟩ ?_ ?_
    · exact pSet _ (by
        have : ∀ n, Paired (RatV B₇) (List.replicate n 0) (List.replicate n (.ref 42)) := fun n => by
          induction n with
          | zero => exact .nil
          | succ n ih => rw [List.replicate_succ, List.replicate_succ]; exact .cons (R0_ok (T₆.le X₄.le)) ih
        exact this wi) (R1_ok (T₆.le X₄.le))
    · rintro j B₈ m₁ m₂ ps₁ h₁₈ tk₁₈ E₂ hj le₈ ⟨zs, rfl, rfl, hzs⟩ ⟨_, sv, ⟨tj, hsv, rfl⟩, rfl⟩ N
      have T₈ := T.le N.mono
      have hj' : j < pv.length := by omega
      obtain ⟨sp, hsp, tsp, rfl⟩ := pGet' hpp hsv
      rw [nats_get hj'] at hsp
      cases hsp
      have hspl : pv.getD j 0 < wi := hlt _ (getD_mem hj')
      have lzs : zs.length = wi := by rw [pLen hzs, nullTo_len]
      refine wpAny_execs_cons (wpAny_Assign_Subscript (Call_ ?_))
      walk_at "N"
      refine callF T₈ (by k_dflt k_is) (args_cons (Subscript_ (Subscript_ ?_)))
      walk_at "N"
      walk_at "N"
      have hjn : j < n := by omega
      obtain ⟨y, hy, lr, vr, cr, rfl, hlr, hpr⟩ := pGet hpf (get_getD [] (i := j) (by rw [hEr.1]; omega))
      obtain ⟨z, hz, hzr⟩ := pGet hpr (get_getD 0 (i := i) (by rw [hEr.row hjn]; omega))
      have le18 := le15.trans (le57.trans le₈)
      refine itemL (pln_of N.sub (le18 _ _ hlf)) (by omega) (by omega) (by rw [Int.toNat_natCast]; exact hy) ?_
      walk_at "N"
      refine itemL (pln_of N.sub (le18 _ _ hlr)) (by omega) (by omega) (by rw [show (((0 : Int) + (i : Int))).toNat = i by omega]; exact hz) (args_nil ⟨N.sub, ?_⟩)
      refine rneg_ok T₈ N.sub ((R.deeper _).le (by omega)) (hzr.le le18) fun B₉ h₁₉ tk₁₉ v₂ X₅ hv₂ => ?_
      have N₁ := N.ext X₅
      walk_at "N"
      walk_at "N"
      refine setP [] (ps₂ := ((P, LstP ys) :: Hold h₁₁ [I]) ++ Hold h₁₈ [e, it]) N₁ (by omega) (by omega) (by rw [Int.toNat_natCast, lzs]; exact hspl) fun h₂₀ N₂ => ?_
      refine wpAny_execs_nil ?_
      refine ⟨B₉, _, (D, LstP (zs.set ((pv.getD j 0 : Nat) : Int).toNat v₂)) :: (P, LstP ys) :: Hold h₁₁ [I], h₂₀, _, rfl, X₅.le, ⟨_, rfl, rfl, ?_⟩, N₂.forget (mL_forget (by walk_at "known"))⟩
      rw [Int.toNat_natCast]
      exact pSet _ (pMono RatV.mono X₅.le hzs) hv₂
    · rintro B₈ m₁ ps₁ h₁₈ tk₁₈ le₈ ⟨zs, rfl, rfl, hzs⟩ N
      refine wpAny_execs_cons (wpAny_Expr (MethodCall_ ?_))
      walk_at "N"
      refine getApp (N.plain (a := P) (vs := ys) (by simp)) (callWith_method1 (args_cons ?_))
      walk_at "N"
      refine args_nil (appP [(D, LstP zs)] (ps₂ := Hold h₁₁ [I]) N (fits (by omega)) fun h₁₉ N₁ => wpAny_execs_nil ?_)
      obtain ⟨B₉, le₉, ⟨oD, eD, cD, rfl⟩, N₂⟩ := N₁.freeze (by simp)
      refine ⟨B₉, _, [(P, _)], h₁₉, _, rfl, le57.trans (le₈.trans le₉), ⟨_, rfl, rfl, ?_⟩, N₂.forget (mL_forget (by walk_at "known"))⟩
      rw [nullBaseTo_out hin]
      refine pAppend (pMono RowV.mono (le57.trans (le₈.trans le₉)) hys) (.cons ⟨_, _, _, rfl, eD, pMono RatV.mono le₉ ?_⟩ .nil)
      rw [lpv] at hzs
      exact hzs
  · rintro B₅ m₁ ps₁ h₁₁ tk₁₁ le ⟨ys, rfl, rfl, hys⟩ F
    refine wpAny_execs_cons (wpAny_Return_some ?_)
    walk_at "N"
    obtain ⟨B₇, le₃, ⟨oP, eP, cP, rfl⟩, F₃⟩ := F.freeze (by simp)
    refine hq B₇ h₁₁ _ _ F₃.toExt ?_
    rw [enb]
    exact ⟨_, _, _, rfl, eP, pMono RowV.mono le₃ hys⟩
end
section
variable {prog : Program} {w : World} {A : Around} {E : Value → Shared → Prop} {s : Shared} {h : Heap} {tk : Nat} {B : Base} {Q : Value → Shared → Prop}

set_option maxHeartbeats 4000000 in
theorem solve_ok (T : Tp (Mine.hd.heap_39 w.params) B) (sub : B.In h) (R : Room 7 A) {M : List (List Rat)} {b : List Rat} {v u : Value} {k n wi : Nat} (hv : MatV B M v) (hu : RowV B b u) (hR : Rect n wi M) (hbn : b.length = n) (hn0 : 0 < n) (hn : n ≤ 99) (hwi : wi ≤ 99)
    (hb : Bnd k M) (hbb : ∀ x ∈ b, RatB k x) (hk0 : 0 < k) (hk : k * 5 ^ (wi + 1) ≤ 9000)
    (hq : ∀ B' h' tk' t f p, Ext B h B' h' → B' t = some (tupO [f, p] 0) → MatV B' (nullBase M) p → ((wi ∈ (ech (aug M b)).2 ∧ f = .none) ∨ (wi ∉ (ech (aug M b)).2 ∧ RowV B' (sol M b) f)) → Q (.ref t) (mk s h' tk')) :
    wpAny (model prog w) A (call (.ref 138) [v, u]) Q E (mk s h tk) := by
  have hD : Dims M := ⟨by rw [hR.1]; omega, fun r hr => by rw [hR.2 r hr]; omega⟩
  have hw : wd M = wi := wd_rect hR hn0
  have hRa := aug_rect hR hbn
  have hwa : wd (aug M b) = wi + 1 := wd_rect hRa hn0
  have hba := aug_bnd hb hbb
  have hk1 : k * 5 ^ wi ≤ 9000 := Nat.le_trans (Nat.mul_le_mul_left k (Nat.pow_le_pow_right (by decide) (Nat.le_succ _))) hk
  have hC := cols hRa hba hk0
  have hlen := echTo_lenle hC (wi + 1) (Nat.le_refl _)
  have hlt := (hC (wi + 1) (Nat.le_refl _)).lt
  have hEr := (hC (wi + 1) (Nat.le_refl _)).rect
  have ee : ech (aug M b) = echTo (aug M b) (wi + 1) := by rw [ech, hwa]
  rw [← ee] at hlen hlt hEr
  have hv0 := hv
  obtain ⟨l, vs, c, rfl, hl, hp⟩ := hv
  obtain ⟨lb, us, cb, rfl, hlb, hpb⟩ := hu
  have lvs : vs.length = n := by rw [pLen hp]; exact hR.1
  have lus : us.length = n := by rw [pLen hpb]; exact hbn
  refine' enter (binds := [("a", .ref l), ("b", .ref lb)]) [] T sub ?he .nil ?hB ?hf ?hcd ?hroom ?hbind ?hkind ?hh ?hcn ?hco ?hgen ?hk
  walk_at "no things"
  walk_at "call the def"
  intro L h₁ tk₁ hL S
  refine wpAny_execs_cons (wpAny_Expr (Call_ ?_))
  walk_at "N"
  refine callF T (by k_dflt k_is) (args_cons (wpAny_Compare1 (Call_ ?_)))
  walk_at "N"
  refine cBuilt (args_cons ?_)
  walk_at "N"
  refine args_nil (lenL (pln_of S.sub hl) (by omega) fun t₁ tk₂ => Call_ ?_)
  walk_at "N"
  refine cBuilt (args_cons ?_)
  walk_at "N"
  refine args_nil (lenL (pln_of S.sub hlb) (by omega) fun t₂ tk₃ => PyProof.Rows.eq_int ?_)
  rw [show ((vs.length : Int) == (us.length : Int)) = true by rw [beq_iff_eq]; omega]
  refine args_cons (cS fun t₃ tk₄ => args_nil ⟨S.sub, ?_⟩)
  refine need_shape_ok T S.sub ((R.deeper _).le (by omega)) fun B₁ h₂ tk₅ X => ?_
  have S₁ := S.ext X
  have T₁ := T.le X.le
  refine wpAny_execs_cons (wpAny_Assign_Name (Subscript_ (Call_ ?_)))
  walk_at "N"
  refine callF T₁ (by k_dflt k_is) (args_cons ?_)
  walk_at "N"
  refine args_nil ⟨S₁.sub, ?_⟩
  refine shape_ok (P := RatV) T₁ S₁.sub ((R.deeper _).le (by omega)) (MatV.mono _ _ _ _ S₁.mono hv0) hD fun B₂ h₃ tk₆ tt x y X₂ et₂ => ?_
  rw [hw] at et₂
  have S₂ := S₁.ext X₂
  refine cI fun _ tk₇ => itemT S₂ et₂ (by decide) (by decide) rfl ?_
  walk_at "storeName"
  intro h₄ tk₈ S₃
  have T₃ := T.le S₃.mono
  refine wpAny_execs_cons (Assign_Tuple (Call_ ?_))
  walk_at "N"
  refine callF T₃ (by k_dflt k_is) (args_cons ?_)
  refine' comp_start [("b", L + 1)] ?hcl2 ?hk2 ?hn2 ?hg2 ?hs2
  case hcl2 => rfl
  case hk2 => rfl
  case hn2 => decide
  case hs2 => exact fun _ => rfl
  refine Call_ ?_
  walk_at "N"
  refine cType (args_cons ?_)
  walk_at "N"
  refine args_nil (enumL "at" "row" R.quiet S₃ (S₃.mono _ _ hl) fun h₅ e it IT hN st S₄ => ?_)
  refine (IT default default 0 default).self 0 (mk s h₅ _) _ _ st ?_
  have hp3 := pMono RowV.mono S₃.mono hp
  have hpb3 := pMono RatV.mono S₃.mono hpb
  refine comp_pure (ps := []) (fun i B₁ ys => Paired (RowV B₁) ((aug M b).take i) ys) (IT _ _ _ _) hN st S₄ (List.mem_cons_self ..) (by simpa using Paired.nil)
    (fun _ _ _ l g => pMono RowV.mono l g) (fits (by omega)) ["b"] (by walk_at "cells known") (fun _ => rfl) (by decide +kernel) (fun C => ⟨canL (List.mem_cons_self ..), canL (List.mem_cons_self ..)⟩) ?_ ?_
  · rintro C D i B₅ m₂ ys h₆ tk₉ E' hi _ le₅ g ⟨_, rv, ⟨tj, hrv, rfl⟩, rfl⟩ F
    refine tests_nil ?_
    rw [if_pos rfl]
    obtain ⟨r, hr, lr, vr, cr, rfl, hlr, hpr⟩ := pGet' hp3 hrv
    have lr1 := pLen hpr
    have lr2 := hR.2 r (List.mem_of_getElem? hr)
    refine wpAny_BinOp (Call_ ?_)
    walk_at "N"
    refine cType (args_cons ?_)
    walk_at "N"
    refine args_nil (copyB F (pln_of F.sub (le₅ _ _ hlr)) (fits (by omega)) fun B₆ h₇ D' c' le₆ e₆ F₂ => List_ (args_cons (Subscript_ ?_)))
    walk_at "N"
    walk_at "N"
    have hib : i < b.length := by omega
    obtain ⟨xv, hxv, hxr⟩ := pGet hpb3 (get_getD 0 hib)
    have le36 := le₅.trans le₆
    refine itemL (pln_of F₂.sub (le36 _ _ (S₃.mono _ _ hlb))) (by omega) (by omega) (by rw [Int.toNat_natCast]; exact hxv) (args_nil ?_)
    refine mkLstB F₂ fun B₇ h₈ l₇ le₇ e₇ F₃ => ?_
    refine addList F₃ (pln_of F₃.sub (le₇ _ _ e₆)) (pln_of F₃.sub e₇) (by simp; omega) fun B₈ h₉ D₈ c₈ le₈ e₈ F₄ => ?_
    refine ⟨B₈, _, h₉, _, rfl, le₆.trans (le₇.trans le₈), pSnocTake (pMono RowV.mono (le₆.trans (le₇.trans le₈)) g) (aug_get hr (get_getD 0 hib)) ⟨_, _, _, rfl, e₈, ?_⟩, mc_upd2 rfl rfl, F₄⟩
    exact pAppend (pMono RatV.mono (le36.trans (le₇.trans le₈)) hpr) (.cons (hxr.le (le36.trans (le₇.trans le₈))) .nil)
  · intro C D B₅ c₂ ys h₆ tk₉ hC' le₅ g _ eD F
    refine comp_none F (List.mem_cons_self ..) (fun x c hc q => hC'.2 x c hc (List.mem_singleton.mpr q)) (hC'.1 _ (List.mem_singleton.mpr rfl)) fun h₇ F₁ => args_nil ⟨F₁.sub.of_le le₅, ?_⟩
    have T₅ := T.le F₁.mono
    refine echelon_ok (M := aug M b) T₅ F₁.sub ((R.deeper _).le (by omega)) ⟨_, _, _, rfl, eD, pWhole g (by rw [hRa.1]; exact lvs)⟩ hRa hwa (by omega) (by omega) hba hk0 hk fun B₆ h₈ tk₁₀ t f p X₃ et hf hp' => ?_
    have esol : sol M b = solTo (ech (aug M b)).1 (ech (aug M b)).2 wi (ech (aug M b)).2.length := by rw [sol, hw]
    generalize ech (aug M b) = EE at *
    obtain ⟨EM, pv⟩ := EE
    have F₂ := F₁.ext X₃
    obtain ⟨lf, fvs, cf, rfl, hlf, hpf⟩ := hf
    obtain ⟨lp, pvs, cp, rfl, hlp, hpp⟩ := hp'
    have lpv : pvs.length = pv.length := by rw [pLen hpp]; simp [nats]
    have lfv : fvs.length = n := by rw [pLen hpf]; exact hEr.1
    replace hlen : pv.length ≤ n := hlen
    refine asgT R.quiet F₂ et rfl rfl fun h₉ F₃ => ?_
    refine assignInOrder_cons (wpAny_assign_Name ?_)
    walk_at "storeName"
    intro h₁₀ tk₁₁ F₄
    refine assignInOrder_cons (wpAny_assign_Name ?_)
    walk_at "storeName"
    intro h₁₁ tk₁₂ F₅
    have T₆ := T.le F₅.mono
    refine assignInOrder_nil (wpAny_execs_cons (wpAny_If (wpAny_isTrue_Compare1 ?_)))
    walk_at "N"
    walk_at "N"
    refine inInts (pln_of F₅.sub hlp) hpp (wpAny_truthy_bool ?_)
    by_cases hin : wi ∈ pv
    · rw [if_pos (by rw [decide_eq_true_eq]; exact nats_mem.mpr hin)]
      refine wpAny_execs_cons (wpAny_Return_some (Tuple_ (args_cons (cNone (args_cons (Call_ ?_))))))
      walk_at "N"
      refine callF T₆ (by k_dflt k_is) (args_cons ?_)
      walk_at "N"
      refine args_nil ⟨F₅.sub, ?_⟩
      refine null_base_ok T₆ F₅.sub ((R.deeper _).le (by omega)) (MatV.mono _ _ _ _ F₅.mono hv0) hR hw (by omega) (by omega) hb hk0 hk1 fun B₇ h₁₂ tk₁₃ v' X₄ hv' => ?_
      refine args_nil (mkTup (F₅.ext X₄) fun B₈ h₁₃ t' le₈ et₈ F₆ => ?_)
      exact hq B₈ h₁₃ _ t' _ _ F₆.toExt et₈ (MatV.mono _ _ _ _ le₈ hv') (.inl ⟨hin, rfl⟩)
    rw [if_neg (by rw [decide_eq_true_eq]; exact fun q => hin (nats_mem.mp q))]
    refine wpAny_execs_nil (wpAny_execs_cons (wpAny_Assign_Name (wpAny_BinOp (List_ (args_cons ?_)))))
    walk_at "N"
    refine args_nil (mkLstB F₅ fun B₇ h₁₂ l₀ le₇ e₀ F₆ => ?_)
    walk_at "N"
    refine mulList F₆ (pln_of F₆.sub e₀) (by omega) fun h₁₃ D hnD F₇ => ?_
    walk_at "storeName"
    intro h₁₄ tk₁₄ F₈
    refine wpAny_execs_cons (wpAny_For (Call_ ?_))
    walk_at "N"
    refine cType (args_cons ?_)
    walk_at "N"
    refine args_nil (enumL "at" "column" R.quiet F₈ (le₇ _ _ hlp) fun h₁₅ e it IT₂ hN₂ st₂ F₉ => ?_)
    refine (IT₂ default default 0 default).self 0 (mk s h₁₅ _) _ _ st₂ ?_
    have F₁₀ := F₉.forget (m' := mL [("reduced", .ref lf), ("pivots", .ref lp), ("found", .ref D), ("a", .ref l), ("width", .int wi y)]) (mL_forget (by walk_at "known"))
    refine forLoop (fun j B m ps => ∃ zs, m = mL [("reduced", .ref lf), ("pivots", .ref lp), ("found", .ref D), ("a", .ref l), ("width", .int wi y)] ∧ ps = [(D, LstP zs)] ∧ Paired (RatV B) (solTo EM pv wi j) zs)
      (IT₂ _ _ _ _) ⟨canL (List.mem_cons_self ..), canL (List.mem_cons_self ..)⟩ hN₂ (List.mem_cons_self ..) F₁₀ st₂ ⟨_, rfl, rfl, ?_⟩ ?_ ?_
    · have : ∀ n, Paired (RatV B₇) (List.replicate n 0) (List.replicate n (.ref 42)) := fun n => by
        induction n with
        | zero => exact .nil
        | succ n ih => rw [List.replicate_succ, List.replicate_succ]; exact .cons (R0_ok (T.le F₈.mono)) ih
      exact this wi
    · rintro j B₈ m₁ m₂ ps₁ h₁₈ tk₁₈ E₂ hj le₈ ⟨zs, rfl, rfl, hzs⟩ ⟨_, sv, ⟨tj, hsv, rfl⟩, rfl⟩ N
      have hj' : j < pv.length := by omega
      obtain ⟨sp, hsp, tsp, rfl⟩ := pGet' hpp hsv
      rw [nats_get hj'] at hsp
      cases hsp
      have hspl : pv.getD j 0 < wi := by
        have h1 : pv.getD j 0 < wi + 1 := hlt _ (getD_mem (d := (0 : Nat)) hj')
        have h2 : pv.getD j 0 ≠ wi := fun q => hin (q ▸ getD_mem hj')
        omega
      have lzs : zs.length = wi := by rw [pLen hzs, solTo_len]
      refine wpAny_execs_cons (wpAny_Assign_Subscript (Subscript_ (Subscript_ ?_)))
      walk_at "N"
      walk_at "N"
      have hjn : j < n := by omega
      obtain ⟨yv, hy, lr, vr, cr, rfl, hlr, hpr⟩ := pGet hpf (get_getD [] (i := j) (by rw [hEr.1]; omega))
      obtain ⟨z, hz, hzr⟩ := pGet hpr (get_getD 0 (i := wi) (by rw [hEr.row hjn]; omega))
      have le18 := le₇.trans le₈
      refine itemL (pln_of N.sub (le18 _ _ hlf)) (by omega) (by omega) (by rw [Int.toNat_natCast]; exact hy) ?_
      walk_at "N"
      refine itemL (pln_of N.sub (le18 _ _ hlr)) (by omega) (by omega) (by rw [Int.toNat_natCast]; exact hz) ?_
      walk_at "N"
      walk_at "N"
      refine setP [] (ps₂ := Hold h₁₈ [e, it]) N (by omega) (by omega) (by rw [Int.toNat_natCast, lzs]; exact hspl) fun h₂₀ N₂ => ?_
      refine wpAny_execs_nil ?_
      refine ⟨B₈, _, [(D, LstP (zs.set ((pv.getD j 0 : Nat) : Int).toNat z))], h₂₀, _, rfl, .rfl, ⟨_, rfl, rfl, ?_⟩, N₂.forget (mL_forget (by walk_at "known"))⟩
      rw [Int.toNat_natCast]
      exact pSet _ hzs (hzr.le le18)
    · rintro B₈ m₁ ps₁ h₁₈ tk₁₈ le₈ ⟨zs, rfl, rfl, hzs⟩ N
      have T₈ := T.le N.mono
      refine wpAny_execs_cons (wpAny_Return_some (Tuple_ (args_cons ?_)))
      walk_at "N"
      refine args_cons (Call_ ?_)
      walk_at "N"
      refine callF T₈ (by k_dflt k_is) (args_cons ?_)
      walk_at "N"
      refine args_nil ⟨N.sub, ?_⟩
      refine null_base_ok T₈ N.sub ((R.deeper _).le (by omega)) (MatV.mono _ _ _ _ N.mono hv0) hR hw (by omega) (by omega) hb hk0 hk1 fun B₉ h₁₉ tk₁₉ v' X₄ hv' => ?_
      refine args_nil (mkTup (N.ext X₄) fun B₁₀ h₂₀ t' le₁₀ et₁₀ N₁ => ?_)
      obtain ⟨B₁₁, le₁₁, ⟨oD, eD', cD, rfl⟩, N₂⟩ := N₁.freeze (by simp)
      refine hq B₁₁ h₂₀ _ t' _ _ N₂.toExt (le₁₁ _ _ et₁₀) (MatV.mono _ _ _ _ (le₁₀.trans le₁₁) hv') (.inr ⟨hin, ?_⟩)
      rw [esol]
      rw [lpv] at hzs
      exact ⟨_, _, _, rfl, eD', pMono RatV.mono (X₄.le.trans (le₁₀.trans le₁₁)) hzs⟩
end
section
variable {prog : Program} {w : World} {A : Around} {E : Value → Shared → Prop} {s : Shared} {h : Heap} {tk : Nat} {B : Base} {Q : Value → Shared → Prop}

set_option maxHeartbeats 4000000 in
theorem pivot_row_ok (T : Tp (Mine.hd.heap_39 w.params) B) (sub : B.In h) (R : Room 1 A) {D : Addr} {as : List Addr} {F : List (List Int)} {n step : Nat} {t : Tok} (I : IM h D as F) (hF : F.length = n) (hr : ∀ r ∈ F, r.length = n) (hn : n ≤ 100) (hs : step < n)
    (hq : ∀ B' h' tk' t' r, Ext B h B' h' → step ≤ r → r < n → (F.getD r []).getD step 0 ≠ 0 → (∀ q, step ≤ q → q < r → (F.getD q []).getD step 0 = 0) → Q (.int (r : Nat) t') (mk s h' tk'))
    (hq' : ∀ B' h' tk', Ext B h B' h' → (∀ q, step ≤ q → q < n → (F.getD q []).getD step 0 = 0) → Q .none (mk s h' tk')) :
    wpAny (model prog w) A (call (.ref 145) [.ref D, .int step t]) Q E (mk s h tk) := by
  have la : as.length = n := by rw [I.len]; exact hF
  refine' enter (binds := [("a", .ref D), ("step", .int step t)]) [] T sub ?he .nil ?hB ?hf ?hcd ?hroom ?hbind ?hkind ?hh ?hcn ?hco ?hgen ?hk
  walk_at "no things"
  walk_at "call the def"
  intro L h₁ tk₁ hL S
  refine wpAny_execs_cons (wpAny_For (Call_ ?_))
  walk_at "N"
  refine cType (args_cons ?_)
  walk_at "N"
  refine args_cons (Call_ ?_)
  walk_at "N"
  refine cBuilt (args_cons ?_)
  walk_at "N"
  have I₁ := I.keeps fun b o e => S.keep b o (by simp) e
  refine args_nil (lenL I₁.top (by rw [List.length_map, la]; omega) fun t₁ tk₂ => args_nil ?_)
  refine mkRange2 S fun B₂ h₂ r₂ ta tb tc tk₃ le₂ er S₂ => ?_
  rw [List.length_map, la] at er
  refine iterR "row" R.quiet S₂ er (by omega) (by omega) (by omega) (by omega) fun h₃ It IT hN st S₃ => ?_
  have S₄ := S₃.forget (m' := mL [("a", .ref D), ("step", .int step t)]) (mL_forget (by walk_at "known"))
  refine forLoop (fun i B m ps => m = mL [("a", .ref D), ("step", .int step t)] ∧ ps = [] ∧ ∀ q, step ≤ q → q < step + i → (F.getD q []).getD step 0 = 0)
    (IT _) (canL (List.mem_cons_self ..)) hN (List.mem_cons_self ..) S₄ st ⟨rfl, rfl, fun q h1 h2 => by omega⟩ ?_ ?_
  · rintro i B₅ m₁ m₂ ps₁ h₅ tk₅ E' hi le ⟨rfl, rfl, hz⟩ ⟨_, ⟨tr, rfl⟩, rfl⟩ N
    have hin : step + i < n := by omega
    have I₅ := I.keeps fun b o e => N.keep b o (by simp) e
    obtain ⟨a, ha⟩ : ∃ a, as[step + i]? = some a := ⟨_, List.getElem?_eq_getElem (by omega)⟩
    have hx := get_getD (F := F) [] (i := step + i) (by omega)
    obtain ⟨vs, pl, hp⟩ := I₅.row _ _ _ ha hx
    have lr := hr _ (getD_mem (d := []) (show step + i < F.length by omega))
    obtain ⟨z, hz1, tz, rfl⟩ := pGet hp (get_getD 0 (i := step) (by omega))
    refine wpAny_execs_cons (wpAny_If (wpAny_isTrue_Compare1 (Subscript_ (Subscript_ ?_))))
    walk_at "N"
    walk_at "N"
    refine itemL I₅.top (by omega) (by omega) (by rw [List.getElem?_map, show ((step : Int) + (i : Int)).toNat = step + i by omega, ha]; rfl) ?_
    walk_at "N"
    refine itemL pl (by omega) (by omega) (by rw [Int.toNat_natCast]; exact hz1) (cI fun _ tk₆ => PyProof.Rows.ne_int (wpAny_truthy_bool ?_))
    by_cases h0 : (F.getD (step + i) []).getD step 0 = 0
    · rw [if_neg (by simpa using h0)]
      refine wpAny_execs_nil (wpAny_execs_nil ?_)
      refine ⟨B₅, _, [], h₅, _, rfl, .rfl, ⟨rfl, rfl, fun q h1 h2 => ?_⟩, N.forget (mL_forget (by walk_at "known"))⟩
      rcases Nat.lt_or_ge q (step + i) with h3 | h3
      · exact hz q h1 h3
      · rw [show q = step + i by omega]; exact h0
    · rw [if_pos (by simpa using h0)]
      refine wpAny_execs_cons (wpAny_Return_some ?_)
      walk_at "N"
      have q := hq B₅ h₅ tk₆ tr (step + i) N.toExt (by omega) hin h0 hz
      rw [Int.natCast_add] at q
      exact q
  · rintro B₅ m₁ ps₁ h₅ tk₅ le ⟨rfl, rfl, hz⟩ N
    refine wpAny_execs_cons (wpAny_Return_some (cNone ?_))
    exact hq' _ _ _ N.toExt fun q h1 h2 => hz q h1 (by omega)

set_option maxHeartbeats 4000000 in
theorem bareiss_ok (T : Tp (Mine.hd.heap_39 w.params) B) (sub : B.In h) (R : Room 1 A) {D : Addr} {as : List Addr} {F : List (List Int)} {n step K : Nat} {t u : Tok} {ahead lead : Int} {prow : List Int} (htop : h.PlainList D (as.map Value.ref).toArray) (la : as.length = n) (hDa : D ∉ as)
    (he : Ents (zE as F) h) (hnd : as.Nodup) (hBa : ∀ a ∈ as, B a = none) (hF : F.length = n) (hr : ∀ r ∈ F, r.length = n) (hn : n ≤ 100) (hs : step < n) (hp0 : F[step]? = some prow) (hlead : prow.getD step 0 = lead)
    (hK : K ≤ 4000) (hb : ∀ r ∈ F, ∀ x ∈ r, Sm K x) (ha0 : ahead ≠ 0) (hab : Sm K ahead)
    (hq : ∀ B' h' tk', ExtW as B h B' h' → Ents (zE as (browsTo lead ahead prow step n (n - (step + 1)) F)) h' → Q .none (mk s h' tk')) :
    wpAny (model prog w) A (call (.ref 152) [.ref D, .int step t, .int ahead u]) Q E (mk s h tk) := by
  have laF : as.length = F.length := by omega
  have hfst := zE_fst laF
  refine' enter (binds := [("a", .ref D), ("step", .int step t), ("ahead", .int ahead u)]) (zE as F) T sub ?he (by rw [hfst]; exact hnd) ?hB ?hf ?hcd ?hroom ?hbind ?hkind ?hh ?hcn ?hco ?hgen ?hk
  case he => exact he
  case hB => intro a ha; rw [hfst] at ha; exact hBa a ha
  walk_at "call the def"
  intro L h₁ tk₁ hL S
  rw [hfst] at S
  have lprow : prow.length = n := hr _ (List.mem_of_getElem? hp0)
  have bprow := hb _ (List.mem_of_getElem? hp0)
  obtain ⟨as0, has0⟩ : ∃ a, as[step]? = some a := ⟨_, List.getElem?_eq_getElem (by omega)⟩
  have blead : Sm K lead := by rw [← hlead]; exact bprow _ (getD_mem (by omega))
  -- the top list, at any time
  have top : ∀ {own env B m ps h'}, Fm as B h₁ own env B m ps h' → True := fun _ => trivial
  have topS : ∀ {own : List Addr} {env : Env} {B₁ : Base} {m : Str → Option Value} {ps : List Ent} {h' : Heap}, Fm as B h own env B₁ m ps h' → h'.PlainList D (as.map Value.ref).toArray := fun N => htop.at fun o e => N.keep D o hDa e
  have rowM : ∀ {i : Nat} {a : Addr} {xs : List Int} {G : List (List Int)} {ps : List Ent}, as[i]? = some a → G[i]? = some xs → (a, IRowP xs) ∈ zE as G ++ ps := fun h1 h2 => List.mem_append_left _ (zE_mem h1 h2)
  refine wpAny_execs_cons (wpAny_Assign_Name (Subscript_ (Subscript_ ?_)))
  walk_at "N"
  walk_at "N"
  obtain ⟨vp, plp, hpp⟩ := S.row (zE_mem has0 hp0)
  obtain ⟨zl, hzl, tl, rfl⟩ := pGet hpp (get_getD 0 (i := step) (by omega))
  refine itemL (topS S) (by omega) (by omega) (by rw [List.getElem?_map, Int.toNat_natCast, has0]; rfl) ?_
  walk_at "N"
  refine itemL plp (by omega) (by omega) (by rw [Int.toNat_natCast]; exact hzl) ?_
  rw [hlead]
  walk_at "storeName"
  intro h₂ tk₂ S₁
  refine wpAny_execs_cons (wpAny_For (Call_ ?_))
  walk_at "N"
  refine cType (args_cons (wpAny_BinOp ?_))
  walk_at "N"
  refine cI fun _ tk₃ => addI fun _ tk₄ => args_cons (Call_ ?_)
  walk_at "N"
  refine cBuilt (args_cons ?_)
  walk_at "N"
  refine args_nil (lenL (topS S₁) (by rw [List.length_map, la]; omega) fun t₁ tk₅ => args_nil ?_)
  refine mkRange2 S₁ fun B₂ h₃ r₂ ta tb tc tk₆ le₂ er S₂ => ?_
  rw [List.length_map, la] at er
  refine iterR "row" R.quiet S₂ er (by omega) (by omega) (by omega) (by omega) fun h₄ It IT hN st S₃ => ?_
  have S₄ := S₃.forget (m' := mL [("a", .ref D), ("step", .int step t), ("ahead", .int ahead u), ("lead", .int lead tl)]) (mL_forget (by walk_at "known"))
  have en : ((n : Int) - ((step : Int) + 1)).toNat = n - (step + 1) := by omega
  rw [en] at IT
  refine forLoop (fun i B m ps => m = mL [("a", .ref D), ("step", .int step t), ("ahead", .int ahead u), ("lead", .int lead tl)] ∧ ps = zE as (browsTo lead ahead prow step n i F))
    (IT _) (canL (List.mem_cons_self ..)) hN (List.mem_cons_self ..) S₄ st ⟨rfl, by rw [browsTo_zero]⟩ ?_ ?_
  · rintro i B₅ m₁ m₂ ps₁ h₅ tk₅ E' hi le ⟨rfl, rfl⟩ ⟨_, ⟨tr, rfl⟩, rfl⟩ N
    have hin : step + 1 + i < n := by omega
    obtain ⟨a, ha⟩ : ∃ a, as[step + 1 + i]? = some a := ⟨_, List.getElem?_eq_getElem (by omega)⟩
    obtain ⟨xs, hx⟩ : ∃ xs, F[step + 1 + i]? = some xs := ⟨_, List.getElem?_eq_getElem (by omega)⟩
    have hxm := List.mem_of_getElem? hx
    have lxs := hr _ hxm
    have bxs := hb _ hxm
    have hes := browsTo_succ lead ahead prow step n i F hx
    have hG : (browsTo lead ahead prow step n i F)[step + 1 + i]? = some xs := by rw [browsTo_keep (.inr (Nat.le_refl _))]; exact hx
    have hGs : (browsTo lead ahead prow step n i F)[step]? = some prow := by rw [browsTo_keep (.inl (Nat.le_refl _))]; exact hp0
    generalize browsTo lead ahead prow step n i F = G at *
    obtain ⟨vs, pl, hp⟩ := N.row (rowM ha hG)
    obtain ⟨z, hz1, tz, rfl⟩ := pGet hp (get_getD 0 (i := step) (by omega))
    have eri : ((step : Int) + 1 + (i : Int)).toNat = step + 1 + i := by omega
    refine wpAny_execs_cons (wpAny_Assign_Name (Subscript_ (Subscript_ ?_)))
    walk_at "N"
    walk_at "N"
    refine itemL (topS N) (by omega) (by omega) (by rw [List.getElem?_map, eri, ha]; rfl) ?_
    walk_at "N"
    refine itemL pl (by omega) (by omega) (by rw [Int.toNat_natCast]; exact hz1) ?_
    have bf : Sm K (xs.getD step 0) := bxs _ (getD_mem (by omega))
    walk_at "storeName"
    intro h₆ tk₆ N₁
    refine wpAny_execs_cons (wpAny_For (Call_ ?_))
    walk_at "N"
    refine cType (args_cons (wpAny_BinOp ?_))
    walk_at "N"
    refine cI fun _ tk₃ => addI fun _ tk₄ => args_cons (Call_ ?_)
    walk_at "N"
    refine cBuilt (args_cons ?_)
    walk_at "N"
    refine args_nil (lenL (topS N₁) (by rw [List.length_map, la]; omega) fun t₁ tk₅ => args_nil ?_)
    refine mkRange2 N₁ fun B₆ h₇ r₃ ta tb tc tk₇ le₆ er₃ N₂ => ?_
    rw [List.length_map, la] at er₃
    refine iterR "column" R.quiet N₂ er₃ (by omega) (by omega) (by omega) (by omega) fun h₈ It₂ IT₂ hN₂ st₂ N₃ => ?_
    have N₄ := N₃.forget (m' := mL [("a", .ref D), ("step", .int step t), ("ahead", .int ahead u), ("lead", .int lead tl), ("row", .int ((step : Int) + 1 + (i : Int)) tr), ("first", .int (xs.getD step 0) tz)]) (mL_forget (by walk_at "known"))
    rw [en] at IT₂
    refine forLoop (fun j B m ps => m = mL [("a", .ref D), ("step", .int step t), ("ahead", .int ahead u), ("lead", .int lead tl), ("row", .int ((step : Int) + 1 + (i : Int)) tr), ("first", .int (xs.getD step 0) tz)] ∧ ps = zE as (G.set (step + 1 + i) (bcols lead ahead prow step j xs)) ++ Hold h₅ [It])
      (IT₂ _) (canL (List.mem_cons_self ..)) hN₂ (List.mem_cons_self ..) N₄ st₂ ⟨rfl, by rw [bcols_zero, set_same hG]⟩ ?_ ?_
    · rintro j B₇ m₁ m₂ ps₁ h₉ tk₉ E₂ hj le₇ ⟨rfl, rfl⟩ ⟨_, ⟨tc, rfl⟩, rfl⟩ P
      have hjn : step + 1 + j < n := by omega
      have hiG : step + 1 + i < G.length := (List.getElem?_eq_some_iff.mp hG).1
      have hG1 : (G.set (step + 1 + i) (bcols lead ahead prow step j xs))[step + 1 + i]? = some (bcols lead ahead prow step j xs) := by rw [List.getElem?_set, if_pos rfl, if_pos hiG]
      have hG2 : (G.set (step + 1 + i) (bcols lead ahead prow step j xs))[step]? = some prow := by rw [List.getElem?_set, if_neg (by omega)]; exact hGs
      rw [List.append_assoc] at P
      obtain ⟨v1, pl1, hp1⟩ := P.row (rowM ha hG1)
      obtain ⟨v2, pl2, hp2⟩ := P.row (rowM has0 hG2)
      have hc1 : (bcols lead ahead prow step j xs)[step + 1 + j]? = some (xs.getD (step + 1 + j) 0) := by rw [bcols_keep (.inr (Nat.le_refl _))]; exact get_getD 0 (by omega)
      obtain ⟨x1, hx1, tx1, rfl⟩ := pGet hp1 hc1
      obtain ⟨x2, hx2, tx2, rfl⟩ := pGet hp2 (get_getD 0 (i := step + 1 + j) (by omega))
      have b1 : Sm K (xs.getD (step + 1 + j) 0) := bxs _ (getD_mem (by omega))
      have b2 : Sm K (prow.getD (step + 1 + j) 0) := bprow _ (getD_mem (by omega))
      have ecj : ((step : Int) + 1 + (j : Int)).toNat = step + 1 + j := by omega
      refine wpAny_execs_cons (wpAny_Assign_Subscript (wpAny_BinOp (wpAny_BinOp (wpAny_BinOp (Subscript_ (Subscript_ ?_))))))
      walk_at "N"
      walk_at "N"
      refine itemL (topS P) (by omega) (by omega) (by rw [List.getElem?_map, eri, ha]; rfl) ?_
      walk_at "N"
      refine itemL pl1 (by omega) (by omega) (by rw [ecj]; exact hx1) ?_
      walk_at "N"
      refine mulI b1 blead (by omega) (by omega) fun _ tk₁₀ => wpAny_BinOp ?_
      walk_at "N"
      refine Subscript_ (Subscript_ ?_)
      walk_at "N"
      walk_at "N"
      refine itemL (topS P) (by omega) (by omega) (by rw [List.getElem?_map, Int.toNat_natCast, has0]; rfl) ?_
      walk_at "N"
      refine itemL pl2 (by omega) (by omega) (by rw [ecj]; exact hx2) ?_
      refine mulI bf b2 (by omega) (by omega) fun _ tk₁₁ => subI fun _ tk₁₂ => ?_
      walk_at "N"
      refine divI ha0 hab (by omega) fun _ tk₁₃ => Subscript_ ?_
      walk_at "N"
      walk_at "N"
      refine itemL (topS P) (by omega) (by omega) (by rw [List.getElem?_map, eri, ha]; rfl) ?_
      walk_at "N"
      refine setRow P ha hG1 (k := step + 1 + j) (by omega) (by omega) (by rw [bcols_len]; omega) fun h₁₀ P₁ => ?_
      refine wpAny_execs_nil ?_
      rw [List.set_set] at P₁
      refine ⟨B₇, _, zE as (G.set (step + 1 + i) (bcols lead ahead prow step (j + 1) xs)) ++ Hold h₅ [It], h₁₀, _, rfl, .rfl, ⟨rfl, rfl⟩, ?_⟩
      rw [bcols_succ, List.append_assoc]
      exact P₁.forget (mL_forget (by walk_at "known"))
    · rintro B₇ m₁ ps₁ h₉ tk₉ le₇ ⟨rfl, rfl⟩ P
      have hiG : step + 1 + i < G.length := (List.getElem?_eq_some_iff.mp hG).1
      have hG1 : (G.set (step + 1 + i) (bcols lead ahead prow step (n - (step + 1)) xs))[step + 1 + i]? = some (bcols lead ahead prow step (n - (step + 1)) xs) := by rw [List.getElem?_set, if_pos rfl, if_pos hiG]
      refine wpAny_execs_cons (wpAny_Assign_Subscript (cI fun _ tk₁₀ => Subscript_ ?_))
      walk_at "N"
      walk_at "N"
      refine itemL (topS P) (by omega) (by omega) (by rw [List.getElem?_map, eri, ha]; rfl) ?_
      walk_at "N"
      refine setRow P ha hG1 (k := step) rfl (by omega) (by rw [bcols_len]; omega) fun h₁₀ P₁ => ?_
      refine wpAny_execs_nil ?_
      rw [List.set_set] at P₁
      refine ⟨B₇, _, zE as (G.set (step + 1 + i) (brow lead ahead prow step n xs)), h₁₀, _, rfl, le₆.trans le₇, ⟨rfl, by rw [hes]⟩, ?_⟩
      exact P₁.forget (mL_forget (by walk_at "known"))
  · rintro B₅ m₁ ps₁ h₅ tk₅ le ⟨rfl, rfl⟩ N
    refine wpAny_execs_nil ?_
    exact hq _ _ _ N.toExtW N.ents
end
section
variable {prog : Program} {w : World} {A : Around} {E : Value → Shared → Prop} {s : Shared} {h : Heap} {tk : Nat} {B : Base} {Q : Value → Shared → Prop}

set_option maxHeartbeats 4000000 in
theorem determinant_ok (T : Tp (Mine.hd.heap_39 w.params) B) (sub : B.In h) (R : Room 2 A) {M : List (List Int)} {v : Value} {n k : Nat} (hv : IMatV B M v) (hM : Sq n M) (hn : n ≤ 100) (hb : SmM k M) (hk0 : 0 < k) (hk : (k + 1) * 2 ^ n ≤ 4000) (hG : Good M)
    (hq : ∀ B' h' tk' t, Ext B h B' h' → Q (.int (detV M) t) (mk s h' tk')) :
    wpAny (model prog w) A (call (.ref 157) [v]) Q E (mk s h tk) := by
  obtain ⟨l, vs, c, rfl, hl, hp⟩ := hv
  have len : vs.length = n := by rw [pLen hp]; exact hM.1
  refine' enter (binds := [("a", .ref l)]) [] T sub ?he .nil ?hB ?hf ?hcd ?hroom ?hbind ?hkind ?hh ?hcn ?hco ?hgen ?hk
  walk_at "no things"
  walk_at "call the def"
  intro L h₁ tk₁ hL S
  refine wpAny_execs_cons (wpAny_If (wpAny_isTrue_Compare1 ?_))
  refine' comp_start [("a", L + 1)] ?hcl2 ?hk2 ?hn2 ?hg2 ?hs2
  case hcl2 => rfl
  case hk2 => rfl
  case hn2 => decide
  case hs2 => exact fun _ => rfl
  walk_at "N"
  refine iterL "row" R.quiet S hl fun h₂ I IT hN st S₂ => ?_
  refine comp_pure (ps := []) (fun i B₁ ys => ys = []) (IT _) hN st S₂ (List.mem_cons_self ..) rfl (fun _ _ _ _ g => g) (fits (by omega)) ["a"] (by walk_at "cells known") (fun _ => rfl) (by decide +kernel) (fun C => canL (List.mem_cons_self ..)) ?_ ?_
  · rintro C D i B₁ m₂ ys h₃ tk₂ E' hi _ le rfl ⟨y, hy, rfl⟩ F
    obtain ⟨r, hr, lr, vr, cr, rfl, hlr, hpr⟩ := pGet' hp hy
    have lenr : vr.length = n := by rw [pLen hpr]; exact hM.2 r (List.mem_of_getElem? hr)
    refine tests_one (wpAny_isTrue_Compare1 (Call_ ?_))
    walk_at "N"
    refine cBuilt (args_cons ?_)
    walk_at "N"
    refine args_nil (lenL (pln_of F.sub (le _ _ hlr)) (by omega) fun t₁ tk₃ => Call_ ?_)
    walk_at "N"
    refine cBuilt (args_cons ?_)
    walk_at "N"
    refine args_nil (lenL (pln_of F.sub (le _ _ hl)) (by omega) fun t₂ tk₄ => PyProof.Rows.ne_int (wpAny_truthy_bool ?_))
    rw [if_neg (by rw [bne_iff_ne]; omega)]
    exact ⟨B₁, _, h₃, _, rfl, .rfl, rfl, mc_upd rfl, F⟩
  intro C D B₂ c₂ ys h₃ tk₂ hC le g _ eD F
  subst g
  refine comp_none F (List.mem_cons_self ..) (fun x c hc q => hC.2 x c hc (List.mem_singleton.mpr q)) (hC.1 _ (List.mem_singleton.mpr rfl)) fun h₄ F₁ => List_ (args_nil ?_)
  refine mkLstB F₁ fun B₃ h₅ l₃ le₃ e₃ F₂ => ?_
  refine neInts (ns := []) (ms := []) (B := B₃) (pln_of F₂.sub (le₃ _ _ eD)) (pln_of F₂.sub e₃) .nil .nil ((R.deeper _).le (by omega)) (wpAny_truthy_bool ?_)
  rw [if_neg (by decide)]
  refine wpAny_execs_nil (wpAny_execs_cons (Assign_Tuple_swapped (names := ["found", "sign", "ahead"]) (Tuple_ (args_cons ?_))))
  refine' comp_start [] ?hcl3 ?hk3 ?hn3 ?hg3 ?hs3
  case hcl3 => rfl
  case hk3 => rfl
  case hn3 => decide
  case hs3 => exact fun _ => rfl
  walk_at "N"
  refine iterL "row" R.quiet F₂ (F₂.mono _ _ hl) fun h₆ I₂ IT₂ hN₂ st₂ F₃ => ?_
  have hp3 := pMono IntsV.mono F₂.mono hp
  have T₃ := T.le F₂.mono
  refine comp_go (psW := []) (psR := []) (fun i B₁ psN psW₁ ys => psW₁ = [] ∧ ∃ as, ys = as.map Value.ref ∧ as.length = i ∧ psN = zE as (M.take i)) (IT₂ _) hN₂ (List.mem_cons_self ..) (fun _ _ _ q => by cases q) F₃ st₂ ⟨rfl, [], rfl, rfl, rfl⟩ (fits (by omega))
    [] (fun p hp => by cases hp) (fun _ => rfl) .nil (fun C => canL (List.mem_cons_self ..)) ?_ ?_
  · rintro C D i B₄ m₂ psN psW₁ ys h₇ tk₃ E' _ _ hi _ le₄ _ ⟨rfl, as, rfl, las, rfl⟩ ⟨y, hy, rfl⟩ G
    refine tests_nil ?_
    rw [if_pos rfl]
    obtain ⟨r, hr, lr, vr, cr, rfl, hlr, hpr⟩ := pGet' hp3 hy
    have lenr : vr.length = n := by rw [pLen hpr]; exact hM.2 r (List.mem_of_getElem? hr)
    refine Call_ ?_
    walk_at "N"
    refine cType (args_cons ?_)
    walk_at "N"
    refine args_nil (copyP G (pln_of G.sub (le₄ _ _ hlr)) (fits (by omega)) fun h₈ D' hnD G₁ => ?_)
    have hin : i < M.length := (List.getElem?_eq_some_iff.mp hr).1
    have etk : M.take (i + 1) = M.take i ++ [r] := by rw [List.take_add_one, hr]; rfl
    have hsn : zE (as ++ [D']) (M.take i ++ [r]) = zE as (M.take i) ++ [(D', IRowP r)] := zE_snoc (by rw [List.length_take]; omega)
    have G₂ := G₁.perm (ps' := (zE as (M.take i) ++ [(D', LstP vr)] ++ [] ++ [(D, LstP (as.map Value.ref))]) ++ Hold h₇ [I₂]) (by
      simp only [List.append_assoc, List.nil_append, List.singleton_append]
      exact List.perm_middle.symm)
    have G₃ := G₂.imp (ps' := (zE as (M.take i) ++ [(D', IRowP r)] ++ [] ++ [(D, LstP (as.map Value.ref))]) ++ Hold h₇ [I₂]) (by simp) fun p hp => by
      by_cases q : p = (D', IRowP r)
      · rw [q]
        obtain ⟨o, eo, po⟩ := G₂.ents (D', LstP vr) (by simp)
        exact ⟨o, eo, vr, po, hpr⟩
      · exact G₂.ents p (by
          simp only [List.mem_append, List.mem_singleton] at hp ⊢
          rcases hp with (((z | z) | z) | z) | z
          · exact .inl (.inl (.inl (.inl z)))
          · exact absurd z q
          · cases z
          · exact .inl (.inr z)
          · exact .inr z)
    rw [← hsn, ← etk] at G₃
    exact ⟨B₄, _, _, [], h₈, _, rfl, .rfl, rfl, ⟨rfl, as ++ [D'], by simp, by simp [las], rfl⟩, mc_upd rfl, G₃⟩
  intro C D' B₄ psN psW₂ ys h₇ tk₃ hD' hC' le₄ _ ⟨hw, as, hys, las, hps⟩ _ G
  subst hw hys hps
  have nC := F₃.newW (wr := [C]) fun a ha => by rw [List.mem_singleton.mp ha]; exact none_ge hC'
  have hMl := hM.1
  have las' : as.length = M.length := by omega
  have etk : M.take vs.length = M := List.take_of_length_le (by omega)
  rw [etk] at G
  refine comp_none G (List.mem_cons_self ..) (fun x c hc q => nC.2 x c hc (List.mem_singleton.mpr q)) (nC.1 _ (List.mem_singleton.mpr rfl)) fun h₈ G₁ => ?_
  refine args_cons (cI fun ts tk₄ => args_cons (cI fun ta tk₅ => args_nil (mkTup G₁ fun B₅ h₉ t' le₅ et G₂ => ?_)))
  refine unpk R.quiet G₂ et rfl fun h₁₀ G₃ => ?_
  refine assignInOrder_cons (wpAny_bindName ?_)
  walk_at "storeName"
  intro h₁₁ tk₆ G₄
  refine assignInOrder_cons (wpAny_bindName ?_)
  walk_at "storeName"
  intro h₁₂ tk₇ G₅
  refine assignInOrder_cons (wpAny_bindName ?_)
  walk_at "storeName"
  intro h₁₃ tk₈ G₆
  refine assignInOrder_nil (wpAny_execs_cons (wpAny_For (Call_ ?_)))
  walk_at "N"
  refine cType (args_cons (Call_ ?_))
  walk_at "N"
  refine cBuilt (args_cons ?_)
  walk_at "N"
  refine args_nil (lenL (pln_of G₆.sub (G₆.mono _ _ hl)) (by omega) fun t₁ tk₉ => args_nil ?_)
  refine mkRange1 G₆ fun B₆ h₁₄ r₂ ta2 tb2 tc2 tk₁₀ le₆ er G₇ => ?_
  refine iterR "step" R.quiet G₇ er (by decide) (by decide) (by omega) (by omega) fun h₁₅ It IT hN st G₈ => ?_
  have en : ((vs.length : Int) - 0).toNat = n := by omega
  rw [en] at IT
  have G₉ := G₈.forget (m' := mL [("found", .ref D'), ("sign", .int 1 ts), ("ahead", .int 1 ta)]) (mL_forget (by walk_at "known"))
  refine forLoop (fun c B m ps => ∃ t, m = mL [("found", .ref D'), ("sign", .int 1 ts), ("ahead", .int (dRun M c).2 t)] ∧ ps = zE as (dRun M c).1 ++ [(D', LstP (as.map Value.ref))] ∧ ∀ d, d < c → 0 < piv M d)
    (IT _) (canL (List.mem_cons_self ..)) hN (List.mem_cons_self ..) (by simpa [dRun] using G₉) st ⟨ta, rfl, rfl, fun d hd => by omega⟩ ?_ ?_
  · rintro c B₇ m₁ m₂ ps₁ h₁₆ tk₁₁ E' hc le₇ ⟨ta', rfl, rfl, hpos⟩ ⟨_, ⟨tr, rfl⟩, rfl⟩ N
    obtain ⟨hSq, hSm, hah, hahS⟩ := dRun_ok hM hb hk0 c (by omega) hpos
    have hbd : (k + 1) * 2 ^ c ≤ 4000 := Nat.le_trans (Nat.mul_le_mul_left _ (Nat.pow_le_pow_right (by decide) (by omega))) hk
    have hg := hG c (by omega) hpos
    have T₇ := T.le N.mono
    have im : IM h₁₆ D' as (dRun M c).1 := N.im (by simp) (by rw [hSq.1]; omega) fun p hp => List.mem_append_left _ (List.mem_append_left _ hp)
    refine wpAny_execs_cons (wpAny_Assign_Name (Call_ ?_))
    walk_at "N"
    refine callF T₇ (by k_dflt k_is) (args_cons ?_)
    walk_at "N"
    refine args_cons ?_
    walk_at "N"
    refine args_nil ⟨N.sub, ?_⟩
    rw [Int.zero_add]
    refine pivot_row_ok (n := n) (F := (dRun M c).1) T₇ N.sub ((R.deeper _).le (by omega)) im hSq.1 hSq.2 hn hc (fun B₈ h₁₇ tk₁₂ t₈ r X hr1 hr2 hr3 hr4 => ?_) fun B₈ h₁₇ tk₁₂ X hz => ?_
    · have hpc : piv M c ≠ 0 := fun e => hr3 (hg.2 e r hr1 (by omega))
      have hpp : 0 < piv M c := by have := hg.1; omega
      have hrc : r = c := by
        rcases Nat.lt_or_ge c r with h1 | h1
        · exact absurd (hr4 c (Nat.le_refl _) h1) hpc
        · omega
      subst hrc
      have N₁ := N.ext X
      walk_at "storeName"
      intro h₁₈ tk₁₃ N₂
      refine wpAny_execs_cons (wpAny_If (wpAny_isTrue_Compare1 ?_))
      walk_at "N"
      refine cNone (is_none_ne (by simp) (wpAny_truthy_bool ?_))
      rw [if_neg (by decide)]
      refine wpAny_execs_nil (wpAny_execs_cons (wpAny_If (wpAny_isTrue_Compare1 ?_)))
      walk_at "N"
      walk_at "N"
      refine PyProof.Rows.ne_int (wpAny_truthy_bool ?_)
      rw [if_neg (by simp)]
      refine wpAny_execs_nil (wpAny_execs_cons (wpAny_Expr (Call_ ?_)))
      walk_at "N"
      have T₈ := T.le N₂.mono
      refine callF T₈ (by k_dflt k_is) (args_cons ?_)
      walk_at "N"
      refine args_cons ?_
      walk_at "N"
      refine args_cons ?_
      walk_at "N"
      refine args_nil ⟨N₂.sub, ?_⟩
      rw [Int.zero_add]
      have la1 : as.length = (dRun M r).1.length := by rw [hSq.1]; omega
      have nd := N₂.nodup
      rw [List.map_append, List.map_append, zE_fst la1] at nd
      have nd2 := (List.nodup_append.mp (List.nodup_append.mp (List.nodup_append.mp nd).2.1).1)
      have hprow : (dRun M r).1[r]? = some ((dRun M r).1.getD r []) := by
        rw [List.getD_eq_getElem?_getD, List.getElem?_eq_getElem (by rw [hSq.1]; exact hc)]; rfl
      refine bareiss_ok (n := n) (F := (dRun M r).1) (K := 4000) (lead := piv M r) (prow := (dRun M r).1.getD r []) T₈ N₂.sub ((R.deeper _).le (by omega)) (N₂.plain (by simp)) (by omega) (fun q => nd2.2.2 D' q D' (by simp) rfl)
        (fun p hp => N₂.ents p (List.mem_append_left _ (List.mem_append_left _ hp))) nd2.1 (fun a ha => N₂.apart a (List.mem_append_right _ (by rw [List.map_append, List.map_append, zE_fst la1]; exact List.mem_append_left _ (List.mem_append_left _ ha))))
        hSq.1 hSq.2 hn hc hprow rfl (Nat.le_refl _) (fun r hr x hx => (hSm r hr x hx).le (by omega)) (by omega) (hahS.le (by omega)) fun B₉ h₁₉ tk₁₄ X₂ he₂ => ?_
      have hSq2 : Sq n (dRun M (r + 1)).1 := (dRun_ok hM hb hk0 (r + 1) (by omega) fun d hd => by
        rcases Nat.lt_or_ge d r with h1 | h1
        · exact hpos d h1
        · rw [show d = r by omega]; exact hpp).1
      have he₃ : Ents (zE as (dRun M (r + 1)).1) h₁₉ := by
        show Ents (zE as (browsTo _ _ _ _ M.length (M.length - (r + 1)) _)) h₁₉
        rw [hMl]; exact he₂
      rw [List.append_assoc] at N₂
      have N₃ := N₂.extWs X₂ la1 (by rw [hSq2.1]; omega) he₃
      refine wpAny_execs_cons (wpAny_Assign_Name (Subscript_ (Subscript_ ?_)))
      walk_at "N"
      walk_at "N"
      obtain ⟨a, ha⟩ : ∃ a, as[r]? = some a := ⟨_, List.getElem?_eq_getElem (by omega)⟩
      have hk2 : (dRun M (r + 1)).1[r]? = some ((dRun M r).1.getD r []) := by
        show (browsTo _ _ _ _ _ _ _)[r]? = _
        rw [browsTo_keep (.inl (Nat.le_refl _))]; exact hprow
      obtain ⟨v3, pl3, hp3'⟩ := N₃.row (List.mem_append_left _ (zE_mem ha hk2))
      have l3 : ((dRun M r).1.getD r []).length = n := hSq.2 _ (getD_mem' (by rw [hSq.1]; exact hc))
      obtain ⟨z, hz, tz, rfl⟩ := pGet hp3' (get_getD 0 (i := r) (by omega))
      refine itemL (N₃.plain (a := D') (vs := as.map Value.ref) (by simp)) (by omega) (by omega) (by rw [Int.zero_add, List.getElem?_map, Int.toNat_natCast, ha]; rfl) ?_
      walk_at "N"
      refine itemL pl3 (by omega) (by omega) (by rw [Int.zero_add, Int.toNat_natCast]; exact hz) ?_
      walk_at "storeName"
      intro h₂₀ tk₁₅ N₄
      refine wpAny_execs_nil ?_
      refine ⟨B₉, _, zE as (dRun M (r + 1)).1 ++ [(D', LstP (as.map Value.ref))], h₂₀, _, rfl, X.le.trans X₂.le, ⟨tz, rfl, rfl, fun d hd => ?_⟩, ?_⟩
      · rcases Nat.lt_or_ge d r with h1 | h1
        · exact hpos d h1
        · rw [show d = r by omega]; exact hpp
      · rw [List.append_assoc]
        exact N₄.forget (mL_forget (by walk_at "known"))
    · have N₁ := N.ext X
      walk_at "storeName"
      intro h₁₈ tk₁₃ N₂
      refine wpAny_execs_cons (wpAny_If (wpAny_isTrue_Compare1 ?_))
      walk_at "N"
      refine cNone (is_none_none (wpAny_truthy_bool ?_))
      rw [if_pos rfl]
      refine wpAny_execs_cons (wpAny_Return_some (cI fun t₉ tk₁₄ => ?_))
      have e0 : detV M = 0 := by
        rw [detV, if_neg]
        intro q
        have h1 := q c (by omega)
        have h2 : piv M c = 0 := hz c (Nat.le_refl _) hc
        omega
      have q := hq _ _ tk₁₄ t₉ N₂.toExt
      rw [e0] at q
      exact q
  · rintro B₇ m₁ ps₁ h₁₆ tk₁₁ le₇ ⟨ta', rfl, rfl, hpos⟩ N
    obtain ⟨hSq, hSm, hah, hahS⟩ := dRun_ok hM hb hk0 n (Nat.le_refl _) hpos
    refine wpAny_execs_cons (wpAny_Return_some (wpAny_BinOp ?_))
    walk_at "N"
    walk_at "N"
    refine mulI (k := 1) (Sm.lit _ (by decide)) hahS (by decide) (by omega) fun t₉ tk₁₂ => ?_
    have e0 : detV M = 1 * (dRun M n).2 := by
      rw [detV, hMl, if_pos hpos, Int.one_mul]
    have q := hq _ _ tk₁₂ t₉ N.toExt
    rw [e0] at q
    exact q
end
def minor (M : List (List Int)) (k : Nat) : List (List Int) := (M.take k).map fun r => r.take k
theorem minor_sq {n k : Nat} {M : List (List Int)} (h : Sq n M) (hk : k ≤ n) : Sq k (minor M k) := by
  refine ⟨by rw [minor, List.length_map, List.length_take, h.1]; omega, fun r hr => ?_⟩
  obtain ⟨q, hq, rfl⟩ := List.mem_map.mp hr
  rw [List.length_take, h.2 q (List.mem_of_mem_take hq)]; omega
theorem minor_sm {b k : Nat} {M : List (List Int)} (h : SmM b M) : SmM b (minor M k) := by
  intro r hr x hx
  obtain ⟨q, hq, rfl⟩ := List.mem_map.mp hr
  exact h q (List.mem_of_mem_take hq) x (List.mem_of_mem_take hx)
def minors (M : List (List Int)) : List Int := (List.range M.length).map fun j => detV (minor M (j + 1))
section
variable {prog : Program} {w : World} {A : Around} {E : Value → Shared → Prop} {s : Shared} {h : Heap} {tk : Nat} {B : Base} {Q : Value → Shared → Prop}

set_option maxHeartbeats 4000000 in
theorem leading_ok (T : Tp (Mine.hd.heap_39 w.params) B) (sub : B.In h) (R : Room 3 A) {M : List (List Int)} {v : Value} {n k : Nat} (hv : IMatV B M v) (hM : Sq n M) (hn : n ≤ 100) (hb : SmM k M) (hk0 : 0 < k) (hk : (k + 1) * 2 ^ n ≤ 4000) (hG : ∀ j, j < n → Good (minor M (j + 1)))
    (hq : ∀ B' h' tk' v', Ext B h B' h' → IntsV B' (minors M) v' → Q v' (mk s h' tk')) :
    wpAny (model prog w) A (call (.ref 162) [v]) Q E (mk s h tk) := by
  obtain ⟨l, vs, c, rfl, hl, hp⟩ := hv
  have hMl := hM.1
  have len : vs.length = n := by rw [pLen hp]; exact hM.1
  refine' enter (binds := [("a", .ref l)]) [] T sub ?he .nil ?hB ?hf ?hcd ?hroom ?hbind ?hkind ?hh ?hcn ?hco ?hgen ?hk
  walk_at "no things"
  walk_at "call the def"
  intro L h₁ tk₁ hL S
  refine wpAny_execs_cons (wpAny_Return_some ?_)
  refine' comp_start [("a", L + 1)] ?hcl2 ?hk2 ?hn2 ?hg2 ?hs2
  case hcl2 => rfl
  case hk2 => rfl
  case hn2 => decide
  case hs2 => exact fun _ => rfl
  refine Call_ ?_
  walk_at "N"
  refine cType (args_cons (cI fun _ tk₂ => args_cons (wpAny_BinOp (Call_ ?_))))
  walk_at "N"
  refine cBuilt (args_cons ?_)
  walk_at "N"
  refine args_nil (lenL (pln_of S.sub hl) (by omega) fun t₁ tk₃ => cI fun _ tk₄ => addI fun _ tk₅ => args_nil ?_)
  refine mkRange2 S fun B₁ h₂ r₁ ta tb tc tk₆ le₁ er S₁ => ?_
  refine iterR "size" R.quiet S₁ er (by omega) (by omega) (by omega) (by omega) fun h₃ I IT hN st S₂ => ?_
  have en : ((vs.length : Int) + 1 - 1).toNat = n := by omega
  rw [en] at IT
  have T₁ := T.le S₁.mono
  refine comp_pure (ps := []) (fun i B₁ ys => Paired (IntV B₁) ((minors M).take i) ys) (IT _) hN st S₂ (List.mem_cons_self ..) (by simpa using Paired.nil) (fun _ _ _ _ g => g) (fits (by omega)) ["size", "a"] (by walk_at "cells known") (fun _ => rfl) (by decide +kernel)
    (fun C => canC (c := C + 1) (List.mem_cons_of_mem _ (List.mem_cons_self ..))) ?_ ?_
  · rintro C D i B₂ m₂ ys h₄ tk₇ E' hi _ le g ⟨_, ⟨ti, rfl⟩, rfl⟩ F
    refine tests_nil ?_
    rw [if_pos rfl]
    have T₂ := T₁.le F.mono
    refine Call_ ?_
    walk_at "N"
    refine callF T₁ (by k_dflt k_is) (args_cons ?_)
    refine' comp_start [("size", C + 1)] ?hcl3 ?hk3 ?hn3 ?hg3 ?hs3
    case hcl3 => rfl
    case hk3 => rfl
    case hn3 => decide
    case hs3 => exact fun _ => rfl
    refine sliceL ?_
    walk_at "N"
    walk_at "N"
    have e1 : (1 : Int) + (i : Int) = ((i + 1 : Nat) : Int) := by omega
    refine ⟨l, vs, i + 1, ti, h₄, _, rfl, rfl, by rw [e1], pln_of F.sub (le _ _ (le₁ _ _ hl)), by omega, _, _, _, _, B₂, _, _, F, fun B₃ h₅ D₂ c₂ le₃ e₃ F₁ => ?_⟩
    refine iterL "row" R.quiet F₁ e₃ fun h₆ I₂ IT₂ hN₂ st₂ F₂ => ?_
    have hpt := pTake (i + 1) hp
    have lt : (vs.take (i + 1)).length = i + 1 := by rw [List.length_take]; omega
    refine comp_pure (fun j B₁ zs => Paired (IntsV B₁) ((minor M (i + 1)).take j) zs) (IT₂ _) hN₂ st₂ F₂ (List.mem_cons_self ..) (by simpa using Paired.nil)
      (fun _ _ _ l g => pMono IntsV.mono l g) (fits (by omega)) ["size"] (by walk_at "cells known") (fun _ => rfl) (by decide +kernel) (fun C => canL (List.mem_cons_self ..)) ?_ ?_
    · rintro C₂ D₃ j B₄ m₄ zs h₇ tk₈ E₂ hj _ le₄ g₂ ⟨z, hz, rfl⟩ K
      refine tests_nil ?_
      rw [if_pos rfl]
      obtain ⟨r, hr, lr, vr, cr, rfl, hlr, hpr⟩ := pGet' hpt hz
      have lenr : vr.length = n := by rw [pLen hpr]; exact hM.2 r (List.mem_of_mem_take (List.mem_of_getElem? hr))
      refine sliceL ?_
      walk_at "N"
      walk_at "N"
      refine ⟨lr, vr, i + 1, ti, h₇, _, rfl, rfl, by rw [e1], pln_of K.sub (le₄ _ _ (le₃ _ _ (le _ _ (le₁ _ _ hlr)))), by omega, _, _, _, _, B₄, _, _, K, fun B₅ h₈ D₅ c₅ le₅ e₅ K₁ => ?_⟩
      exact ⟨B₅, _, h₈, _, rfl, le₅, pSnocTake (x := r.take (i + 1)) (pMono IntsV.mono le₅ g₂) (by rw [minor, List.getElem?_map, hr]; rfl) ⟨_, _, _, rfl, e₅, pTake (i + 1) hpr⟩, mc_upd rfl, K₁⟩
    · intro C₂ D₃ B₄ c₄ zs h₇ tk₈ hC₂ le₄ g₂ _ e₄ K
      refine comp_none K (List.mem_cons_self ..) (fun x c hc q => hC₂.2 x c hc (List.mem_singleton.mpr q)) (hC₂.1 _ (List.mem_singleton.mpr rfl)) fun h₈ K₁ => args_nil ⟨K₁.sub.of_le K₁.mono, ?_⟩
      have hsq := minor_sq hM (k := i + 1) (by omega)
      refine determinant_ok (M := minor M (i + 1)) (T₁.le K₁.mono) K₁.sub ((R.deeper _).le (by omega)) ⟨_, _, _, rfl, e₄, pWhole g₂ (by rw [hsq.1, lt])⟩ hsq (by omega) (minor_sm hb) hk0
        (Nat.le_trans (Nat.mul_le_mul_left _ (Nat.pow_le_pow_right (by decide) (by omega))) hk) (hG i hi) fun B₅ h₉ tk₉ t₉ X => ?_
      refine ⟨B₅, _, h₉, _, rfl, le₃.trans (le₄.trans X.le), pSnocTake (x := detV (minor M (i + 1))) g (by rw [minors, List.getElem?_map, hMl, List.getElem?_range hi]; rfl) ⟨_, rfl⟩, mc_upd rfl, K₁.ext X⟩
  · intro C D B₂ c₂ ys h₄ tk₇ hC le g _ e F
    refine comp_none F (List.mem_cons_self ..) (fun x c hc q => hC.2 x c hc (List.mem_singleton.mpr q)) (hC.1 _ (List.mem_singleton.mpr rfl)) fun h₅ F' => ?_
    exact hq B₂ h₅ _ _ F'.toExt ⟨_, _, _, rfl, e, pWhole g (by simp [minors, hMl])⟩
end
def dot (xs ys : List Int) : Int := (List.zipWith (fun x y => x * y) xs ys).sum
def prods (cs : List (List Int)) : List (List Int) := cs.map fun x => cs.map fun y => dot x y
def prodDen (qs : List Rat) : Int := qs.foldl (fun t q => t * (q.den : Int)) 1
def shareOf (times : Int) (q : Rat) : Int := q.num * times.fdiv q.den
def restStep (left col : List Int) (share : Int) : List Int := List.zipWith (fun x c => x - share * c) left col
def restTo (cs : List (List Int)) (qs : List Rat) (aim : List Int) : Nat → List Int
  | 0 => aim.map fun x => prodDen qs * x
  | k + 1 => restStep (restTo cs qs aim k) (cs.getD k []) (shareOf (prodDen qs) (qs.getD k 0))
def rest (cs : List (List Int)) (qs : List Rat) (aim : List Int) : List Int := restTo cs qs aim cs.length
theorem restTo_len {cs : List (List Int)} {qs : List Rat} {aim : List Int} {n : Nat} (hc : ∀ c ∈ cs, c.length = n) (ha : aim.length = n) : ∀ k, k ≤ cs.length → (restTo cs qs aim k).length = n
  | 0, _ => by rw [restTo, List.length_map]; exact ha
  | k + 1, h => by
    rw [restTo, restStep, List.length_zipWith, restTo_len hc ha k (by omega), hc _ (getD_mem' (d := []) (by omega)), Nat.min_self]
theorem sm_foldl {K : Nat} : ∀ (qs : List Rat) (b : Nat) (t : Int), Sm b t → (∀ q ∈ qs, RatB K q) → Sm (b + K * qs.length) (qs.foldl (fun t q => t * (q.den : Int)) t)
  | [], b, t, h, _ => by simpa using h
  | q :: qs, b, t, h, hq => by
    have := sm_foldl qs (b + K) (t * (q.den : Int)) (h.mul (hq q (List.mem_cons_self ..)).2) fun q h => hq q (List.mem_cons_of_mem _ h)
    rw [List.foldl_cons, List.length_cons, Nat.mul_succ]
    exact this.le (by omega)
theorem prodDen_sm {K : Nat} {qs : List Rat} (h : ∀ q ∈ qs, RatB K q) : Sm (1 + K * qs.length) (prodDen qs) := sm_foldl qs 1 1 (Sm.lit _ (by decide)) h
theorem foldl_pos : ∀ (qs : List Rat) (t : Int), 0 < t → 0 < qs.foldl (fun t q => t * (q.den : Int)) t
  | [], t, h => h
  | q :: qs, t, h => foldl_pos qs _ (Int.mul_pos h (by have := q.den_pos; omega))
theorem prodDen_pos (qs : List Rat) : 0 < prodDen qs := foldl_pos qs 1 (by decide)
theorem shareOf_sm {K b : Nat} {q : Rat} {t : Int} (hq : RatB K q) (ht : Sm b t) : Sm (K + b) (shareOf t q) := by
  refine hq.1.mul ?_
  exact Sm.fdiv ht (by have := q.den_pos; omega)
theorem ratB_zero (K : Nat) (hK : 0 < K) : RatB K 0 := ⟨Sm.lit _ (Nat.pow_pos (by decide)), Sm.lit _ (by show 1 < 2 ^ K; exact Nat.one_lt_two_pow (by omega))⟩
theorem restTo_sm {cs : List (List Int)} {qs : List Rat} {aim : List Int} {K b : Nat} (hK : 0 < K) (hq : ∀ q ∈ qs, RatB K q) (hc : SmM b cs) (ha : ∀ x ∈ aim, Sm b x) :
    ∀ k, ∀ x ∈ restTo cs qs aim k, Sm (K + (1 + K * qs.length) + b + k + 1) x
  | 0, x, hx => by
    obtain ⟨y, hy, rfl⟩ := List.mem_map.mp hx
    exact ((prodDen_sm hq).mul (ha y hy)).le (by omega)
  | k + 1, x, hx => by
    obtain ⟨i, hi⟩ := List.mem_iff_getElem?.mp hx
    rw [restTo, restStep, List.getElem?_zipWith] at hi
    cases h1 : (restTo cs qs aim k)[i]? with
    | none => rw [h1] at hi; simp at hi
    | some r =>
      cases h2 : (cs.getD k [])[i]? with
      | none => rw [h1, h2] at hi; simp at hi
      | some c =>
        rw [h1, h2] at hi
        simp at hi
        rw [← hi]
        have hr := restTo_sm hK hq hc ha k r (List.mem_of_getElem? h1)
        have hkc : k < cs.length := by
          rcases Nat.lt_or_ge k cs.length with h | h
          · exact h
          · rw [List.getD_eq_getElem?_getD, List.getElem?_eq_none h] at h2; simp at h2
        have hcm := hc _ (getD_mem' (d := []) hkc) c (List.mem_of_getElem? h2)
        have hqk : RatB K (qs.getD k 0) := by
          rcases Nat.lt_or_ge k qs.length with h | h
          · exact hq _ (getD_mem' h)
          · rw [List.getD_eq_getElem?_getD, List.getElem?_eq_none h]; exact ratB_zero K hK
        exact Sm.sub hr ((shareOf_sm hqk (prodDen_sm hq)).mul hcm) (by omega) (by omega)
theorem dot_sm_sum : ∀ (l : List Int) (b : Nat), (∀ x ∈ l, Sm b x) → Sm (b + l.length) l.sum
  | [], b, _ => Sm.lit _ (Nat.pow_pos (by decide))
  | x :: l, b, h => by
    rw [List.sum_cons, List.length_cons]
    exact ((h x (List.mem_cons_self ..)).le (by omega)).add (dot_sm_sum l b fun y hy => h y (List.mem_cons_of_mem _ hy)) (k := b + l.length) (by omega) (by omega)
theorem dot_sm {xs ys : List Int} {a b n : Nat} (hx : ∀ x ∈ xs, Sm a x) (hy : ∀ y ∈ ys, Sm b y) (hn : xs.length ≤ n) : Sm (a + b + n) (dot xs ys) := by
  refine (dot_sm_sum _ (a + b) fun z hz => ?_).le ?_
  · obtain ⟨i, hi⟩ := List.mem_iff_getElem?.mp hz
    rw [List.getElem?_zipWith] at hi
    cases h1 : xs[i]? with
    | none => rw [h1] at hi; simp at hi
    | some r =>
      cases h2 : ys[i]? with
      | none => rw [h1, h2] at hi; simp at hi
      | some c => rw [h1, h2] at hi; simp at hi; rw [← hi]; exact (hx r (List.mem_of_getElem? h1)).mul (hy c (List.mem_of_getElem? h2))
  · rw [List.length_zipWith]; omega
def rights (cs : List (List Int)) (aim : List Int) : List Int := cs.map fun c => dot c aim
def qsol (cs : List (List Int)) (aim : List Int) : List Rat := sol (qmat (prods cs)) (qrow (rights cs aim))
def leftOf (cs : List (List Int)) (aim : List Int) : List Int := rest cs (qsol cs aim) aim
def transp (cs : List (List Int)) (k : Nat) : List (List Int) := (List.range k).map fun at' => cs.map fun c => c.getD at' 0
def rankOf (cs : List (List Int)) (k : Nat) : Nat := (ech (qmat (transp cs k))).2.length
def wideOf (cs : List (List Int)) (aim : List Int) : Int := detV (prods (cs ++ [aim]))

structure Fine (n : Nat) (cs : List (List Int)) (aim : List Int) : Prop where
  len : cs.length = n
  pos : 0 < n
  le : n ≤ 3
  rows : ∀ c ∈ cs, c.length = 4
  alen : aim.length = 4
  sm : SmM 3 cs
  sma : ∀ x ∈ aim, Sm 3 x
  solv : n ∉ (ech (aug (qmat (prods cs)) (qrow (rights cs aim)))).2
  upright : ∀ c ∈ cs, dot c (leftOf cs aim) = 0
  nulls : ∀ q ∈ nullBase (qmat (prods cs)), ∀ x ∈ rest cs q (List.replicate 4 0), x = 0
  count : rankOf cs 4 + (nullBase (qmat (prods cs))).length = n
  free : detV (prods cs) = 0 ↔ nullBase (qmat (prods cs)) ≠ []
  gram : dot (leftOf cs aim) (leftOf cs aim) * detV (prods cs) = prodDen (qsol cs aim) * prodDen (qsol cs aim) * wideOf cs aim
  minors : ∀ x ∈ minors (prods cs), 0 ≤ x
  wide0 : 0 ≤ wideOf cs aim
  wide1 : wideOf cs aim ≤ detV (prods cs) * dot aim aim
  most : detV (prods cs) ≠ 0 → (wideOf cs aim = detV (prods cs) * dot aim aim ↔ ∀ x ∈ rights cs aim, x = 0)
  good : Good (prods cs)
  good' : Good (prods (cs ++ [aim]))
  goods : ∀ j, j < n → Good (minor (prods cs) (j + 1))

theorem prods_sq (cs : List (List Int)) : Sq cs.length (prods cs) := ⟨by simp [prods], fun r hr => by
  obtain ⟨x, _, rfl⟩ := List.mem_map.mp hr; simp⟩
theorem prods_sm {cs : List (List Int)} {k n : Nat} (h : SmM k cs) (hn : ∀ c ∈ cs, c.length = n) : SmM (k + k + n) (prods cs) := by
  intro r hr x hx
  obtain ⟨c, hc, rfl⟩ := List.mem_map.mp hr
  obtain ⟨d, hd, rfl⟩ := List.mem_map.mp hx
  exact dot_sm (h c hc) (h d hd) (by rw [hn c hc]; exact Nat.le_refl _)
theorem qmat_rect {n w : Nat} {M : List (List Int)} (h : M.length = n) (hw : ∀ r ∈ M, r.length = w) : Rect n w (qmat M) := ⟨by simp [qmat, h], fun r hr => by
  obtain ⟨x, hx, rfl⟩ := List.mem_map.mp hr
  rw [qrow, List.length_map]; exact hw x hx⟩
theorem ratB_int {k : Nat} {x : Int} (h : Sm k x) (hk : 0 < k) : RatB k (x : Rat) := ⟨by rw [Rat.num_intCast]; exact h, by rw [Rat.den_intCast]; exact Sm.lit _ (by show 1 < 2 ^ k; exact Nat.one_lt_two_pow (by omega))⟩
theorem qrow_B {k : Nat} {r : List Int} (h : ∀ x ∈ r, Sm k x) (hk : 0 < k) : ∀ x ∈ qrow r, RatB k x := fun x hx => by
  obtain ⟨y, hy, rfl⟩ := List.mem_map.mp hx
  exact ratB_int (h y hy) hk
theorem qmat_B {k : Nat} {M : List (List Int)} (h : SmM k M) (hk : 0 < k) : Bnd k (qmat M) := fun r hr => by
  obtain ⟨y, hy, rfl⟩ := List.mem_map.mp hr
  exact qrow_B (h y hy) hk
theorem getD_B {K : Nat} (hK : 0 < K) {r : List Rat} (h : ∀ x ∈ r, RatB K x) (i : Nat) : RatB K (r.getD i 0) := by
  rcases Nat.lt_or_ge i r.length with h1 | h1
  · exact h _ (getD_mem h1)
  · rw [List.getD_eq_getElem?_getD, List.getElem?_eq_none h1]; exact ratB_zero K hK
theorem getD2_B {K : Nat} (hK : 0 < K) {E : List (List Rat)} (h : Bnd K E) (i j : Nat) : RatB K ((E.getD i []).getD j 0) := by
  rcases Nat.lt_or_ge i E.length with h1 | h1
  · exact getD_B hK (h _ (getD_mem h1)) j
  · have e : E.getD i [] = [] := by rw [List.getD_eq_getElem?_getD, List.getElem?_eq_none h1]; rfl
    rw [e]; exact ratB_zero K hK
theorem ratB_one (K : Nat) (hK : 0 < K) (h2 : 1 < K) : RatB K 1 := ⟨Sm.lit _ (by show 1 < 2 ^ K; exact Nat.one_lt_two_pow (by omega)), Sm.lit _ (by show 1 < 2 ^ K; exact Nat.one_lt_two_pow (by omega))⟩
theorem nullTo_B {K : Nat} (hK : 1 < K) {E : List (List Rat)} (h : Bnd K E) (pv : List Nat) (wi c : Nat) : ∀ k, ∀ x ∈ nullTo E pv wi c k, RatB K x
  | 0, x, hx => by
    rcases List.mem_or_eq_of_mem_set hx with q | q
    · rw [(List.mem_replicate.mp q).2]; exact ratB_zero K (by omega)
    · rw [q]; exact ratB_one K (by omega) hK
  | k + 1, x, hx => by
    rcases List.mem_or_eq_of_mem_set hx with q | q
    · exact nullTo_B hK h pv wi c k x q
    · rw [q]; exact rneg_B (getD2_B (by omega) h k c)
theorem solTo_B {K : Nat} (hK : 1 < K) {E : List (List Rat)} (h : Bnd K E) (pv : List Nat) (wi : Nat) : ∀ k, ∀ x ∈ solTo E pv wi k, RatB K x
  | 0, x, hx => by rw [(List.mem_replicate.mp hx).2]; exact ratB_zero K (by omega)
  | k + 1, x, hx => by
    rcases List.mem_or_eq_of_mem_set hx with q | q
    · exact solTo_B hK h pv wi k x q
    · rw [q]; exact getD2_B (by omega) h k wi
theorem sol_len (M : List (List Rat)) (b : List Rat) : (sol M b).length = wd M := solTo_len _ _ _ _
theorem nullBase_len {M : List (List Rat)} : ∀ q ∈ nullBase M, q.length = wd M := fun q hq => by
  obtain ⟨c, _, rfl⟩ := List.mem_map.mp hq
  exact nullTo_len _ _ _ _ _
theorem ech_B {M : List (List Rat)} {n wi k : Nat} (R : Rect n wi M) (hw : wd M = wi) (b : Bnd k M) (hk : 0 < k) : Bnd (k * 5 ^ wi) (ech M).1 := by
  have := (cols R b hk wi (Nat.le_refl _)).bnd
  rw [ech, hw]; exact this
theorem nullBase_B {M : List (List Rat)} {n wi k : Nat} (R : Rect n wi M) (hw : wd M = wi) (b : Bnd k M) (hk : 1 < k) : ∀ q ∈ nullBase M, ∀ x ∈ q, RatB (k * 5 ^ wi) x := fun q hq => by
  obtain ⟨c, _, rfl⟩ := List.mem_map.mp hq
  have h1 : 1 * 1 ≤ 5 ^ wi * 1 := by have := Nat.pow_pos (n := wi) (show 0 < 5 by decide); omega
  have h2 : k * 1 ≤ k * 5 ^ wi := Nat.mul_le_mul_left _ (by omega)
  exact nullTo_B (by omega) (ech_B R hw b (by omega)) _ _ _ _
theorem sol_B {M : List (List Rat)} {b : List Rat} {n wi k : Nat} (R : Rect n wi (aug M b)) (hw : wd (aug M b) = wi) (bb : Bnd k (aug M b)) (hk : 1 < k) : ∀ x ∈ sol M b, RatB (k * 5 ^ wi) x := by
  have h1 : 0 < 5 ^ wi := Nat.pow_pos (by decide)
  have h2 : k * 1 ≤ k * 5 ^ wi := Nat.mul_le_mul_left _ (by omega)
  exact solTo_B (by omega) (ech_B R hw bb (by omega)) _ _ _
theorem detV_sm {n k : Nat} {M : List (List Int)} (hs : Sq n M) (hb : SmM k M) (hk : 0 < k) : Sm ((k + 1) * 2 ^ n) (detV M) := by
  unfold detV
  split
  · rename_i h
    rw [hs.1] at h ⊢
    exact (dRun_ok hs hb hk n (Nat.le_refl _) h).2.2.2.le (by omega)
  · exact Sm.lit _ (Nat.pow_pos (by decide))
theorem lits_int (hp : Heap) : ∀ {vs : List Value} {ds : List PyData}, DataAre vs ds → (∀ d ∈ ds, ∃ i, d = .int i) → ∀ {j : Nat}, j < ds.length → ∃ d t, vs[j]? = some (.int d t)
  | _, _, .cons h r, ha, 0, _ => by
    obtain ⟨i, rfl⟩ := ha _ (List.mem_cons_self ..)
    have h' := h hp
    cases h'
    exact ⟨_, _, rfl⟩
  | _, _, .cons h r, ha, j + 1, hj => by
    have := lits_int hp r (fun d hd => ha d (List.mem_cons_of_mem _ hd)) (j := j) (by simpa using hj)
    simpa using this
section
variable {prog : Program} {w : World} {A : Around} {E : Value → Shared → Prop} {s : Shared} {h : Heap} {tk : Nat} {B : Base} {Q : Value → Shared → Prop}

set_option maxHeartbeats 600000 in
theorem draw_ok (T : Tp (Mine.hd.heap_39 w.params) B) (sub : B.In h) (R : Room 1 A) {P lc : Addr} {cs : List Value} {ns : List Int} {c k : Nat} {m : Int} {t u : Tok} (he : ∃ o, h.get? P = some o ∧ LstP [.ref lc, .int (k : Nat) t] o) (hB : B P = none)
    (hlc : B lc = some (lstO cs c)) (hp : Paired (IntV B) ns cs) (hn : cs.length ≤ 1000) (hk : k ≤ 1000) (hm : 0 < m)
    (hq : ∀ B' h' tk' d t t', ExtW [P] B h B' h' → (∃ o, h'.get? P = some o ∧ LstP [.ref lc, .int (k + 1 : Nat) t'] o) → 0 ≤ d → d < m → Q (.int d t) (mk s h' tk')) :
    wpAny (model prog w) A (call (.ref 169) [.ref P, .int m u]) Q E (mk s h tk) := by
  refine' enter (binds := [("pool", .ref P), ("many", .int m u)]) [(P, LstP [.ref lc, .int (k : Nat) t])] T sub ?he (by simp) ?hB ?hf ?hcd ?hroom ?hbind ?hkind ?hh ?hcn ?hco ?hgen ?hk
  case he => intro p hp; rw [List.mem_singleton.mp hp]; exact he
  case hB => intro a ha; rw [List.mem_singleton.mp ha]; exact hB
  walk_at "call the def"
  intro L h₁ tk₁ hL S
  refine wpAny_execs_cons (wpAny_Assign_Name (Subscript_ ?_))
  walk_at "N"
  refine cI fun _ tk₂ => itemL (S.plain (List.mem_singleton.mpr rfl)) (by decide) (by decide) rfl ?_
  walk_at "storeName"
  intro h₂ tk₃ S₁
  refine wpAny_execs_cons (wpAny_Assign_Subscript (wpAny_BinOp ?_))
  walk_at "N"
  refine cI fun _ tk₄ => addI fun t₁ tk₅ => ?_
  walk_at "N"
  refine cI fun _ tk₆ => setP [] S₁ (by decide) (by decide) (Nat.lt_succ_self 1) fun h₃ S₂ => ?_
  have S₃ : Fm [P] B h _ _ B _ [(P, LstP [.ref lc, .int (k + 1 : Nat) t₁])] h₃ := S₂
  refine wpAny_execs_cons (wpAny_If (wpAny_isTrue_Compare1 ?_))
  walk_at "N"
  refine Call_ ?_
  walk_at "N"
  refine cBuilt (args_cons (Subscript_ ?_))
  walk_at "N"
  refine cI fun _ tk₇ => itemL (S₃.plain (List.mem_singleton.mpr rfl)) (by decide) (by decide) rfl (args_nil (lenL (pln_of S₃.sub hlc) (by omega) fun t₂ tk₈ => PyProof.Rows.lt_int (wpAny_truthy_bool ?_)))
  have ents := S₃.ents _ (List.mem_singleton.mpr rfl)
  by_cases hlt : (k : Int) < (cs.length : Int)
  · rw [if_pos (by simpa using hlt)]
    obtain ⟨v, hv⟩ : ∃ v, cs[k]? = some v := ⟨_, List.getElem?_eq_getElem (by omega)⟩
    obtain ⟨x, hx, tx, rfl⟩ := pGet' hp hv
    refine wpAny_execs_cons (wpAny_Return_some (wpAny_BinOp (Call_ ?_)))
    walk_at "N"
    refine cBuilt (args_cons (Subscript_ (Subscript_ ?_)))
    walk_at "N"
    refine cI fun _ tk₉ => itemL (S₃.plain (List.mem_singleton.mpr rfl)) (by decide) (by decide) rfl ?_
    walk_at "N"
    refine itemL (pln_of S₃.sub hlc) (by omega) (by omega) (by rw [Int.toNat_natCast]; exact hv) (args_nil (absI fun _ tk₁₀ => ?_))
    walk_at "N"
    refine modI (by omega) fun t₄ tk₁₁ => ?_
    exact hq B h₃ _ _ t₄ t₁ S₃.toExtW ents (Int.fmod_nonneg_of_pos _ hm) (Int.fmod_lt_of_pos _ hm)
  · rw [if_neg (by simpa using hlt)]
    refine wpAny_execs_nil ?_
    refine wpAny_execs_cons ?_
    refine wpAny_Return_some ?_
    refine wpAny_BinOp ?_
    refine Subscript_ ?_
    refine' Tuple_lits (s := mk s h₃ tk₈) (ds := [.int 0, .int 3, .int 3, .int 2, .int 3, .int 2, .int 2, .int 3, .int 2, .int 1, .int 2, .int 3, .int 3, .int 2, .int 3, .int 3, .int 2, .int 3]) ?hl ?hsz _ ?hh2
    case hl => rfl
    case hsz => exact Nat.le_of_ble_eq_true rfl
    intro a o h₄ tk₉ ha eo ho hkeep
    obtain ⟨hcls, vs, n', hdat, hda⟩ := ho
    have hln : h₃.get? a = none := none_ge ha
    obtain ⟨B₁, X, eB⟩ := Ext.alloc (a := a) (o := o) S₃.sub hln hkeep eo
    have S₄ := S₃.ext X
    show wpAny _ _ _ _ _ (mk s h₄ tk₉)
    refine wpAny_BinOp ?_
    walk_at "N"
    refine cI fun _ tk₁₀ => modI (by decide) fun t₅ tk₁₁ => ?_
    have j0 := Int.fmod_nonneg_of_pos (k : Int) (show (0 : Int) < 18 by decide)
    have j1 := Int.fmod_lt_of_pos (k : Int) (show (0 : Int) < 18 by decide)
    obtain ⟨d, td, hd⟩ := lits_int h₄ hda (by simp) (j := ((k : Int).fmod 18).toNat) (by show _ < 18; omega)
    have hl18 : vs.length = 18 := dataAre_len hda
    refine item_tupleT (j := ((k : Int).fmod 18).toNat) ⟨o, eo, hcls, n', hdat⟩ (by omega) (by omega) ?_ (by simpa using hd) ?_ (by with_unfolding_all rfl)
    · unfold seqIndex?
      have h1 : ¬ (k : Int).fmod 18 < 0 := by omega
      have h2 : (k : Int).fmod 18 < (vs.length : Int) := by omega
      simp [h1, j0, h2]
    walk_at "N"
    refine modI (by omega) fun t₆ tk₁₂ => ?_
    exact hq B₁ h₄ _ _ t₆ t₁ S₄.toExtW (S₄.ents _ (List.mem_singleton.mpr rfl)) (Int.fmod_nonneg_of_pos _ hm) (Int.fmod_lt_of_pos _ hm)
end
section
variable {prog : Program} {w : World} {A : Around} {E : Value → Shared → Prop} {s : Shared} {h : Heap} {tk : Nat} {B : Base} {Q : Value → Shared → Prop}

set_option maxHeartbeats 1000000 in
theorem by_ok (T : Tp (Mine.hd.heap_39 w.params) B) (sub : B.In h) (R : Room 1 A) {xs ys : List Int} {u v : Value} {k l : Nat} (hu : IntsV B xs u) (hv : IntsV B ys v) (hl : xs.length = ys.length) (hn : xs.length ≤ 1000) (hx : ∀ x ∈ xs, Sm k x) (hy : ∀ y ∈ ys, Sm l y) (hk : k ≤ 500000) (hl' : l ≤ 500000)
    (hq : ∀ B' h' tk' t, Ext B h B' h' → Q (.int (dot xs ys) t) (mk s h' tk')) :
    wpAny (model prog w) A (call (.ref 174) [u, v]) Q E (mk s h tk) := by
  obtain ⟨la, us, ca, rfl, hla, hpa⟩ := hu
  obtain ⟨lb, vs, cb, rfl, hlb, hpb⟩ := hv
  have lus := pLen hpa
  refine' enter (binds := [("one", .ref la), ("other", .ref lb)]) [] T sub ?he .nil ?hB ?hf ?hcd ?hroom ?hbind ?hkind ?hh ?hcn ?hco ?hgen ?hk
  walk_at "no things"
  walk_at "call the def"
  intro L h₁ tk₁ hL S
  refine wpAny_execs_cons (wpAny_Return_some (Call_ ?_))
  walk_at "N"
  refine cBuilt (args_cons ?_)
  refine' comp_start [("other", L + 1)] ?hcl2 ?hk2 ?hn2 ?hg2 ?hs2
  case hcl2 => rfl
  case hk2 => rfl
  case hn2 => decide
  case hs2 => exact fun _ => rfl
  refine Call_ ?_
  walk_at "N"
  refine cType (args_cons ?_)
  walk_at "N"
  refine args_nil (enumL "at" "number" R.quiet S hla fun h₂ e it IT hN st S₁ => ?_)
  refine (IT default default 0 default).self 0 (mk s h₂ _) _ _ st ?_
  refine comp_pure (ps := []) (fun i B₁ zs => Paired (IntV B₁) ((List.zipWith (fun x y => x * y) xs ys).take i) zs) (IT _ _ _ _) hN st S₁ (List.mem_cons_self ..) (by simpa using Paired.nil)
    (fun _ _ _ _ g => g) (fits (by omega)) ["other"] (by walk_at "cells known") (fun _ => rfl) (by decide +kernel) (fun C => ⟨canL (List.mem_cons_self ..), canL (List.mem_cons_self ..)⟩) ?_ ?_
  · rintro C D i B₂ m₂ zs h₃ tk₂ E' hi _ le g ⟨_, xv, ⟨ti, hxv, rfl⟩, rfl⟩ F
    refine tests_nil ?_
    rw [if_pos rfl]
    obtain ⟨x, hx1, tx, rfl⟩ := pGet' hpa hxv
    have hi' : i < ys.length := by omega
    obtain ⟨y, hy1, ty, rfl⟩ := pGet hpb (get_getD 0 hi')
    refine wpAny_BinOp ?_
    walk_at "N"
    refine Subscript_ ?_
    walk_at "N"
    walk_at "N"
    refine itemL (pln_of F.sub (le _ _ hlb)) (by omega) (by omega) (by rw [Int.toNat_natCast]; exact hy1) ?_
    refine mulI (hx x (List.mem_of_getElem? hx1)) (hy _ (getD_mem hi')) hk hl' fun t₁ tk₃ => ?_
    exact ⟨B₂, _, h₃, _, rfl, .rfl, pSnocTake g (by rw [List.getElem?_zipWith, hx1, get_getD 0 hi']) ⟨_, rfl⟩, mc_upd2 rfl rfl, F⟩
  · intro C D B₂ c₂ zs h₃ tk₂ hC le g _ eD F
    refine comp_none F (List.mem_cons_self ..) (fun x c hc q => hC.2 x c hc (List.mem_singleton.mpr q)) (hC.1 _ (List.mem_singleton.mpr rfl)) fun h₄ F₁ => args_nil ?_
    refine sumL R.quiet F₁ eD (pWhole g (by simp; omega)) fun h₅ tk₃ t F₂ => ?_
    exact hq B₂ h₅ _ t F₂.toExt

set_option maxHeartbeats 1000000 in
theorem products_ok (T : Tp (Mine.hd.heap_39 w.params) B) (sub : B.In h) (R : Room 2 A) {cs : List (List Int)} {v : Value} {k n : Nat} (hv : IMatV B cs v) (hc : ∀ c ∈ cs, c.length = n) (hn : n ≤ 1000) (hcs : cs.length ≤ 1000) (hx : SmM k cs) (hk : k ≤ 500000)
    (hq : ∀ B' h' tk' v', Ext B h B' h' → IMatV B' (prods cs) v' → Q v' (mk s h' tk')) :
    wpAny (model prog w) A (call (.ref 179) [v]) Q E (mk s h tk) := by
  obtain ⟨l, vs, c, rfl, hl, hp⟩ := hv
  have len := pLen hp
  refine' enter (binds := [("columns", .ref l)]) [] T sub ?he .nil ?hB ?hf ?hcd ?hroom ?hbind ?hkind ?hh ?hcn ?hco ?hgen ?hk
  walk_at "no things"
  walk_at "call the def"
  intro L h₁ tk₁ hL S
  refine wpAny_execs_cons (wpAny_Return_some ?_)
  refine' comp_start [("columns", L + 1)] ?hcl2 ?hk2 ?hn2 ?hg2 ?hs2
  case hcl2 => rfl
  case hk2 => rfl
  case hn2 => decide
  case hs2 => exact fun _ => rfl
  walk_at "N"
  refine iterL "one" R.quiet S hl fun h₂ I IT hN st S₂ => ?_
  refine comp_pure (ps := []) (fun i B₁ ys => Paired (IntsV B₁) ((prods cs).take i) ys) (IT _) hN st S₂ (List.mem_cons_self ..) (by simpa using Paired.nil)
    (fun _ _ _ l g => pMono IntsV.mono l g) (fits (by omega)) ["one", "columns"] (by walk_at "cells known") (fun _ => rfl) (by decide +kernel) (fun C => canC (c := C + 1) (List.mem_cons_of_mem _ (List.mem_cons_self ..))) ?_ ?_
  · rintro C D i B₁ m₂ ys h₃ tk₂ E' hi _ le g ⟨y, hy, rfl⟩ F
    refine tests_nil ?_
    rw [if_pos rfl]
    obtain ⟨x, hx1, hxv⟩ := pGet' hp hy
    have lx := hc x (List.mem_of_getElem? hx1)
    have T₁ := T.le le
    refine' comp_start [("one", C + 1)] ?hcl3 ?hk3 ?hn3 ?hg3 ?hs3
    case hcl3 => rfl
    case hk3 => rfl
    case hn3 => decide
    case hs3 => exact fun _ => rfl
    walk_at "N"
    refine iterL "other" R.quiet F (le _ _ hl) fun h₄ I₂ IT₂ hN₂ st₂ S₄ => ?_
    refine comp_pure (fun j B₂ zs => Paired (IntV B₂) ((cs.map fun y => dot x y).take j) zs) (IT₂ _) hN₂ st₂ S₄ (List.mem_cons_self ..) (by simpa using Paired.nil)
      (fun _ _ _ l g => g) (fits (by omega)) ["one"] (by walk_at "cells known") (fun _ => rfl) (by decide +kernel) (fun C => canL (List.mem_cons_self ..)) ?_ ?_
    · rintro C₂ D₂ j B₂ m₃ zs h₅ tk₃ E₂ hj _ le₂ g₂ ⟨z, hz, rfl⟩ F₂
      refine tests_nil ?_
      rw [if_pos rfl]
      obtain ⟨y', hy1, hyv⟩ := pGet' hp hz
      have ly := hc y' (List.mem_of_getElem? hy1)
      refine Call_ ?_
      walk_at "N"
      refine callF T (by k_dflt k_is) (args_cons ?_)
      walk_at "N"
      refine args_cons ?_
      walk_at "N"
      refine args_nil ⟨F₂.sub.of_le (le.trans le₂), ?_⟩
      refine by_ok (T.le (le.trans le₂)) F₂.sub ((R.deeper _).le (by omega)) (IntsV.mono _ _ _ _ (le.trans le₂) hxv) (IntsV.mono _ _ _ _ (le.trans le₂) hyv) (by omega) (by omega) (hx x (List.mem_of_getElem? hx1)) (hx y' (List.mem_of_getElem? hy1)) hk hk fun B₃ h₆ tk₄ t X => ?_
      exact ⟨B₃, _, h₆, _, rfl, X.le, pSnocTake g₂ (by rw [List.getElem?_map, hy1]; rfl) ⟨_, rfl⟩, mc_upd rfl, F₂.ext X⟩
    · intro C₂ D₂ B₂ c₂ zs h₅ tk₃ hC le₂ g₂ _ e₂ F₂
      refine comp_none F₂ (List.mem_cons_self ..) (fun x c hc q => hC.2 x c hc (List.mem_singleton.mpr q)) (hC.1 _ (List.mem_singleton.mpr rfl)) fun h₆ F₃ => ?_
      exact ⟨B₂, _, h₆, _, rfl, le₂, pSnocTake (pMono IntsV.mono le₂ g) (by rw [prods, List.getElem?_map, hx1]; rfl) ⟨_, _, _, rfl, e₂, pWhole g₂ (by simp [len])⟩, mc_upd rfl, F₃⟩
  · intro C D B₂ c₂ ys h' tk' hC le g _ e F
    refine comp_none F (List.mem_cons_self ..) (fun x c hc q => hC.2 x c hc (List.mem_singleton.mpr q)) (hC.1 _ (List.mem_singleton.mpr rfl)) fun h'' F' => ?_
    exact hq B₂ h'' _ _ F'.toExt ⟨_, _, _, rfl, e, pWhole g (by simp [prods, len])⟩
end
section
variable {prog : Program} {w : World} {A : Around} {E : Value → Shared → Prop} {s : Shared} {h : Heap} {tk : Nat} {B : Base} {Q : Value → Shared → Prop}

set_option maxHeartbeats 2000000 in
theorem rest_ok (T : Tp (Mine.hd.heap_39 w.params) B) (sub : B.In h) (R : Room 2 A) {cs : List (List Int)} {qs : List Rat} {aim : List Int} {u v y : Value} {K n : Nat} (hu : IMatV B cs u) (hv : RowV B qs v) (hy : IntsV B aim y)
    (hc : ∀ c ∈ cs, c.length = n) (ha : aim.length = n) (hn : n ≤ 1000) (hcs : cs.length ≤ 4) (hqs : qs.length = cs.length) (hx : SmM 8 cs) (hax : ∀ x ∈ aim, Sm 8 x) (hK0 : 0 < K) (hK : K ≤ 9000) (hqb : ∀ q ∈ qs, RatB K q)
    (hq : ∀ B' h' tk' t l tt, Ext B h B' h' → B' t = some (tupO [.int (prodDen qs) tt, l] 0) → IntsV B' (rest cs qs aim) l → Q (.ref t) (mk s h' tk')) :
    wpAny (model prog w) A (call (.ref 184) [u, v, y]) Q E (mk s h tk) := by
  obtain ⟨lc, us, cc, rfl, hlc, hpc⟩ := hu
  obtain ⟨lq, vs, cq, rfl, hlq, hpq⟩ := hv
  obtain ⟨la, as, ca, rfl, hla, hpa⟩ := hy
  have lus := pLen hpc
  have lvs := pLen hpq
  have las := pLen hpa
  have hPs := prodDen_sm hqb
  have hPk : 1 + K * qs.length ≤ 40000 := by
    have := Nat.mul_le_mul hK (show qs.length ≤ 4 by omega)
    omega
  refine' enter (binds := [("columns", .ref lc), ("numbers", .ref lq), ("aim", .ref la)]) [] T sub ?he .nil ?hB ?hf ?hcd ?hroom ?hbind ?hkind ?hh ?hcn ?hco ?hgen ?hk
  walk_at "no things"
  walk_at "call the def"
  intro L h₁ tk₁ hL S
  refine wpAny_execs_cons (wpAny_Assign_Name (cI fun t₁ tk₂ => ?_))
  walk_at "storeName"
  intro h₂ tk₃ S₁
  refine wpAny_execs_cons (wpAny_For ?_)
  walk_at "N"
  refine iterL "number" R.quiet S₁ hlq fun h₃ I IT hN st S₂ => ?_
  have S₃ := S₂.forget (m' := mL [("columns", .ref lc), ("numbers", .ref lq), ("aim", .ref la), ("times", .int 1 t₁)]) (mL_forget (by walk_at "known"))
  refine forLoop (fun i B m ps => ∃ x t, m = mL [("columns", .ref lc), ("numbers", .ref lq), ("aim", .ref la), ("times", .int x t)] ∧ ps = [] ∧ x = prodDen (qs.take i))
    (IT _) (canL (List.mem_cons_self ..)) hN (List.mem_cons_self ..) S₃ st ⟨_, _, rfl, rfl, rfl⟩ ?_ ?_
  · rintro i B₂ m₁ m₂ ps₁ h₄ tk₄ E' hi le ⟨x, t, rfl, rfl, hxe⟩ ⟨qv, hqv, rfl⟩ F
    obtain ⟨q, hq1, lt, nt, ta, tb, rfl, hlt⟩ := pGet' hpq hqv
    refine wpAny_execs_cons (wpAny_Assign_Name (wpAny_BinOp ?_))
    walk_at "N"
    refine Subscript_ ?_
    walk_at "N"
    have bx : Sm (1 + K * (qs.take i).length) x := by rw [hxe]; exact prodDen_sm fun q h => hqb q (List.mem_of_mem_take h)
    have bl : K * (qs.take i).length ≤ K * qs.length := Nat.mul_le_mul_left _ (by rw [List.length_take]; omega)
    refine cI fun _ tk₅ => itemT F (le _ _ hlt) (by decide) (by decide) rfl (mulI bx (hqb q (List.mem_of_getElem? hq1)).2 (by omega) (by omega) fun t₂ tk₆ => ?_)
    walk_at "storeName"
    intro h₅ tk₇ F₁
    refine wpAny_execs_nil ?_
    refine ⟨B₂, _, [], h₅, _, rfl, .rfl, ⟨_, _, rfl, rfl, ?_⟩, F₁.forget (mL_forget (by walk_at "known"))⟩
    rw [List.take_add_one, hq1, hxe]
    simp [prodDen, List.foldl_append]
  · rintro B₂ m₁ ps₁ h₄ tk₄ le ⟨x, t, rfl, rfl, hxe⟩ F
    rw [List.take_of_length_le (by omega)] at hxe
    subst hxe
    refine wpAny_execs_cons ?_
    refine' comp_assign [("times", L + 1)] ?hsw ?hcl ?hk' ?hn ?hg ?hs
    case hk' => rfl
    case hn => decide
    case hcl => rfl
    case hs => exact fun _ => rfl
    case hsw => rfl
    walk_at "N"
    refine iterL "number" R.quiet F (le _ _ hla) fun h₅ I₂ IT₂ hN₂ st₂ F₁ => ?_
    refine comp_pure (ps := []) (fun i B₁ zs => Paired (IntV B₁) ((aim.map fun x => prodDen qs * x).take i) zs) (IT₂ _) hN₂ st₂ F₁ (List.mem_cons_self ..) (by simpa using Paired.nil)
      (fun _ _ _ _ g => g) (fits (by omega)) ["times"] (by walk_at "cells known") (fun _ => rfl) (by decide +kernel) (fun C => canL (List.mem_cons_self ..)) ?_ ?_
    · rintro C D i B₃ m₃ zs h₆ tk₅ E' hi _ le₃ g ⟨xv, hxv, rfl⟩ G
      refine tests_nil ?_
      rw [if_pos rfl]
      obtain ⟨x, hx1, tx, rfl⟩ := pGet' hpa hxv
      refine wpAny_BinOp ?_
      walk_at "N"
      walk_at "N"
      refine mulI hPs (hax x (List.mem_of_getElem? hx1)) (by omega) (by omega) fun t₂ tk₆ => ?_
      exact ⟨B₃, _, h₆, _, rfl, .rfl, pSnocTake g (by rw [List.getElem?_map, hx1]; rfl) ⟨_, rfl⟩, mc_upd rfl, G⟩
    intro C D B₃ c₃ zs h₆ tk₅ hC le₃ g _ eD G
    refine comp_some' "left" G (List.mem_cons_self ..) (fun x c hc q => hC.2 x c hc (List.mem_singleton.mpr q)) (hC.1 _ (List.mem_singleton.mpr rfl)) (canL (List.mem_cons_self ..)) fun h₇ tk₆ G₁ => ?_
    have g0 : Paired (IntV B₃) (restTo cs qs aim 0) zs := pWhole g (by simp [las, restTo])
    refine wpAny_execs_cons (wpAny_For (Call_ ?_))
    walk_at "N"
    refine cType (args_cons ?_)
    walk_at "N"
    refine args_nil (enumL "spot" "column" R.quiet G₁ (le₃ _ _ (le _ _ hlc)) fun h₈ e it IT₃ hN₃ st₃ G₂ => ?_)
    refine (IT₃ default default 0 default).self 0 (mk s h₈ _) _ _ st₃ ?_
    have G₃ := G₂.forget (m' := mL [("columns", .ref lc), ("numbers", .ref lq), ("times", .int (prodDen qs) t), ("left", .ref D)]) (mL_forget (by walk_at "known"))
    refine forLoop (fun k B m ps => ∃ l, m = mL [("columns", .ref lc), ("numbers", .ref lq), ("times", .int (prodDen qs) t), ("left", l)] ∧ ps = [] ∧ IntsV B (restTo cs qs aim k) l)
      (IT₃ _ _ _ _) ⟨canL (List.mem_cons_self ..), canC'⟩ hN₃ (List.mem_cons_self ..) G₃ st₃ ⟨_, rfl, rfl, _, _, _, rfl, eD, g0⟩ ?_ ?_
    · rintro k B₄ m₁ m₂ ps₁ h₉ tk₇ E' hk le₄ ⟨l, rfl, rfl, hl⟩ ⟨_, cv, ⟨tk', hcv, rfl⟩, rfl⟩ N
      have leA := le.trans (le₃.trans le₄)
      obtain ⟨col, hcol, lcol, vcol, ccol, rfl, hlcol, hpcol⟩ := pGet' hpc hcv
      have hcolm := List.mem_of_getElem? hcol
      have lcl := hc col hcolm
      have hkc : k < cs.length := by omega
      obtain ⟨qv, hqv, lt, nt, ta, tb, rfl, hlt⟩ := pGet hpq (get_getD 0 (i := k) (by omega))
      have hqm : RatB K (qs.getD k 0) := hqb _ (getD_mem (by omega))
      have bsh := shareOf_sm hqm hPs
      obtain ⟨ll, vl, cl, rfl, hll, hpl⟩ := hl
      have lrt := restTo_len hc ha k (by omega) (qs := qs)
      have lvl := pLen hpl
      refine wpAny_execs_cons (wpAny_Assign_Name (wpAny_BinOp (Subscript_ (Subscript_ ?_))))
      walk_at "N"
      walk_at "N"
      refine itemL (pln_of N.sub (leA _ _ hlq)) (by omega) (by omega) (by rw [Int.toNat_natCast]; exact hqv) ?_
      refine cI fun _ tk₈ => itemT N (leA _ _ hlt) (by decide) (by decide) rfl (wpAny_BinOp ?_)
      walk_at "N"
      refine Subscript_ (Subscript_ ?_)
      walk_at "N"
      walk_at "N"
      refine itemL (pln_of N.sub (leA _ _ hlq)) (by omega) (by omega) (by rw [Int.toNat_natCast]; exact hqv) ?_
      refine cI fun _ tk₉ => itemT N (leA _ _ hlt) (by decide) (by decide) rfl ?_
      refine divI (den_ne _) hqm.2 hK fun t₃ tk₁₀ => mulI hqm.1 (Sm.fdiv hPs (by have := (qs.getD k 0).den_pos; omega)) (by omega) (by omega) fun t₄ tk₁₁ => ?_
      walk_at "storeName"
      intro h₁₀ tk₁₂ N₁
      refine wpAny_execs_cons ?_
      refine' comp_assign [("share", L + 1 + 1 + 1), ("column", L + 1 + 1)] ?hsw2 ?hcl2 ?hk2' ?hn2 ?hg2 ?hs2
      case hk2' => rfl
      case hn2 => decide
      case hcl2 => rfl
      case hs2 => exact fun _ => rfl
      case hsw2 => rfl
      refine Call_ ?_
      walk_at "N"
      refine cType (args_cons ?_)
      walk_at "N"
      refine args_nil (enumL "at" "number" R.quiet N₁ hll fun h₁₁ e₂ it₂ IT₄ hN₄ st₄ N₂ => ?_)
      refine (IT₄ default default 0 default).self 0 (mk s h₁₁ _) _ _ st₄ ?_
      refine comp_pure (fun i B₁ zs => Paired (IntV B₁) ((restTo cs qs aim (k + 1)).take i) zs) (IT₄ _ _ _ _) hN₄ st₄ N₂ (List.mem_cons_self ..) (by simpa using Paired.nil)
        (fun _ _ _ _ g => g) (fits (by omega)) ["share", "column"] (by walk_at "cells known") (fun _ => rfl) (by decide +kernel) (fun C => ⟨canL (List.mem_cons_self ..), canL (List.mem_cons_self ..)⟩) ?_ ?_
      · rintro C D i B₅ m₃ zs h₁₂ tk₁₃ E' hi _ le₅ g ⟨_, xv, ⟨ti, hxv, rfl⟩, rfl⟩ P
        refine tests_nil ?_
        rw [if_pos rfl]
        obtain ⟨x, hx1, tx, rfl⟩ := pGet' hpl hxv
        have hic : i < col.length := by omega
        obtain ⟨y, hy1, ty, rfl⟩ := pGet hpcol (get_getD 0 hic)
        refine wpAny_BinOp ?_
        walk_at "N"
        refine wpAny_BinOp ?_
        walk_at "N"
        refine Subscript_ ?_
        walk_at "N"
        walk_at "N"
        refine itemL (pln_of P.sub (le₅ _ _ (leA _ _ hlcol))) (by omega) (by omega) (by rw [Int.toNat_natCast]; exact hy1) ?_
        refine mulI bsh (hx col hcolm _ (getD_mem hic)) (by omega) (by omega) fun t₅ tk₁₄ => subI fun t₆ tk₁₅ => ?_
        refine ⟨B₅, _, h₁₂, _, rfl, .rfl, pSnocTake g ?_ ⟨_, rfl⟩, mc_upd2 rfl rfl, P⟩
        rw [restTo, restStep, List.getElem?_zipWith, hx1, getD_eq hcol, get_getD 0 hic]
        rfl
      · intro C D B₅ c₅ zs h₁₂ tk₁₃ hC5 le₅ g _ eD5 P
        refine comp_some' "left" P (List.mem_cons_self ..) (fun x c hc q => hC5.2 x c hc (List.mem_singleton.mpr q)) (hC5.1 _ (List.mem_singleton.mpr rfl)) (canL (List.mem_cons_self ..)) fun h₁₃ tk₁₄ P₁ => wpAny_execs_nil ?_
        have lr1 := restTo_len hc ha (k + 1) (by omega) (qs := qs)
        exact ⟨B₅, _, [], h₁₃, _, rfl, le₅, ⟨_, rfl, rfl, _, _, _, rfl, eD5, pWhole g (by omega)⟩, P₁.forget (mL_forget (by walk_at "known"))⟩
    · rintro B₄ m₁ ps₁ h₉ tk₇ le₄ ⟨l, rfl, rfl, hl⟩ N
      refine wpAny_execs_cons (wpAny_Return_some (Tuple_ (args_cons ?_)))
      walk_at "N"
      refine args_cons ?_
      walk_at "N"
      refine args_nil (mkTup N fun B₅ h₁₀ t' le₅ et N₁ => ?_)
      refine hq B₅ h₁₀ _ t' l t N₁.toExt et (IntsV.mono _ _ _ _ le₅ ?_)
      rw [lus] at hl
      exact hl
end
theorem reads_row {B : Base} {h : Heap} (sub : B.In h) : ∀ {rs : List Rat} {vs : List Value}, Paired (RatV B) rs vs → ∃ as, ReadsAll h vs (rs.map ratD) as
  | _, _, .nil => ⟨_, .nil⟩
  | _, _, .cons a r => let ⟨as, q⟩ := reads_row sub r; ⟨_, .cons (RatV.reads a sub) q⟩
theorem reads_mat {B : Base} {h : Heap} (sub : B.In h) : ∀ {M : List (List Rat)} {vs : List Value}, Paired (RowV B) M vs → ∃ as, ReadsAll h vs (M.map fun r => .list (r.map ratD)) as
  | _, _, .nil => ⟨_, .nil⟩
  | _, _, .cons ⟨l, vs, c, e, hl, hp⟩ r => by
    obtain ⟨as, q⟩ := reads_mat sub r
    obtain ⟨bs, q2⟩ := reads_row sub hp
    subst e
    exact ⟨_, .cons (.list (sub _ _ hl) rfl rfl q2) q⟩
theorem canRow : ∀ rs : List Rat, PyData.canLayAll0 (rs.map ratD) = true
  | [] => rfl
  | r :: rs => by
    show (PyData.canLay0 (ratD r) && PyData.canLayAll0 (rs.map ratD)) = true
    rw [canRow rs]; rfl
theorem canMat : ∀ M : List (List Rat), PyData.canLayAll0 (M.map fun r => PyData.list (r.map ratD)) = true
  | [] => rfl
  | r :: M => by
    show (PyData.canLayAll0 (r.map ratD) && PyData.canLayAll0 (M.map fun r => PyData.list (r.map ratD))) = true
    rw [canRow, canMat M]; rfl
section
variable {prog : Program} {w : World} {A : Around} {E : Value → Shared → Prop} {s : Shared} {h : Heap} {tk : Nat} {B : Base} {Q : Value → Shared → Prop}
/-- «free != []» -/
theorem neNil {M : List (List Rat)} {v : Value} {l : Addr} {c : Nat} (sub : B.In h) (hM : MatV B M v) (hl : B l = some (lstO [] c)) (R : Room 0 A) (hq : Q (.bool (decide (M ≠ []))) (mk s h tk)) :
    wpAny (model prog w) A (compareOp .NotEq v (.ref l)) Q E (mk s h tk) := by
  obtain ⟨lm, vs, cm, rfl, hlm, hp⟩ := hM
  obtain ⟨as, ra⟩ := reads_mat sub hp
  refine PySem.SeqAt.compareNe_reads (s := mk s h tk) (da := .list (M.map fun r : List Rat => PyData.list (r.map ratD))) (db := .list []) (.list (sub _ _ hlm) rfl rfl ra) (.list (sub _ _ hl) rfl rfl .nil) (canMat M) rfl ?_ ?_
  · have := R.units
    have h2 : (PyData.list ([] : List PyData)).depth = 1 := rfl
    rw [h2]
    omega
  · have e : (!PyData.eqv (.list (M.map fun r : List Rat => PyData.list (r.map ratD))) (.list [])) = decide (M ≠ []) := by
      cases M with
      | nil => rfl
      | cons r M => rfl
    rw [e]; exact hq

set_option maxHeartbeats 4000000 in
theorem looked_ok (T : Tp (Mine.hd.heap_39 w.params) B) (sub : B.In h) (R : Room 9 A) {cs : List (List Int)} {aim : List Int} {u v : Value} {n : Nat} (hu : IMatV B cs u) (hv : IntsV B aim v) (X : Fine n cs aim)
    (hq : ∀ B' h' tk' t l t1 t2, Ext B h B' h' → B' t = some (tupO [.int (rankOf cs 4) t1, .int (prodDen (qsol cs aim)) t2, l] 0) → IntsV B' (leftOf cs aim) l → Q (.ref t) (mk s h' tk')) :
    wpAny (model prog w) A (call (.ref 189) [u, v]) Q E (mk s h tk) := by
  have hu0 := hu
  have hv0 := hv
  obtain ⟨lc, us, cc, rfl, hlc, hpc⟩ := hu
  obtain ⟨la, as, ca, rfl, hla, hpa⟩ := hv
  have lcs := X.len
  have lus := pLen hpc
  have las := pLen hpa
  have hn1 := X.pos
  have hn3 := X.le
  have hal := X.alen
  have hsq := prods_sq cs
  rw [lcs] at hsq
  have hpsm : SmM 10 (prods cs) := prods_sm X.sm X.rows
  have hrsm : ∀ x ∈ rights cs aim, Sm 10 x := fun x hx => by
    obtain ⟨c, hc, rfl⟩ := List.mem_map.mp hx
    exact dot_sm (X.sm c hc) X.sma (by rw [X.rows c hc]; exact Nat.le_refl _)
  refine' enter (binds := [("columns", .ref lc), ("aim", .ref la)]) [] T sub ?he .nil ?hB ?hf ?hcd ?hroom ?hbind ?hkind ?hh ?hcn ?hco ?hgen ?hk
  walk_at "no things"
  walk_at "call the def"
  intro L h₁ tk₁ hL S
  refine wpAny_execs_cons (Assign_Tuple_swapped (names := ["products", "right"]) (Tuple_ (args_cons (Call_ ?_))))
  walk_at "N"
  refine callF T (by k_dflt k_is) (args_cons ?_)
  walk_at "N"
  refine args_nil ⟨S.sub, ?_⟩
  refine products_ok T S.sub ((R.deeper _).le (by omega)) hu0 X.rows (by decide) (by omega) X.sm (by decide) fun B₁ h₂ tk₂ pv X₁ hpv => ?_
  have S₁ := S.ext X₁
  have T₁ := T.le S₁.mono
  refine args_cons ?_
  refine' comp_start [("aim", L + 1 + 1)] ?hcl2 ?hk2 ?hn2 ?hg2 ?hs2
  case hcl2 => rfl
  case hk2 => rfl
  case hn2 => decide
  case hs2 => exact fun _ => rfl
  walk_at "N"
  refine iterL "column" R.quiet S₁ (S₁.mono _ _ hlc) fun h₃ I IT hN st S₂ => ?_
  refine comp_pure (ps := []) (fun i B₁ ys => Paired (IntV B₁) ((rights cs aim).take i) ys) (IT _) hN st S₂ (List.mem_cons_self ..) (by simpa using Paired.nil)
    (fun _ _ _ _ g => g) (fits (by omega)) ["aim"] (by walk_at "cells known") (fun _ => rfl) (by decide +kernel) (fun C => canL (List.mem_cons_self ..)) ?_ ?_
  · rintro C D i B₂ m₂ ys h₄ tk₃ E' hi _ le g ⟨y, hy, rfl⟩ F
    refine tests_nil ?_
    rw [if_pos rfl]
    obtain ⟨x, hx1, hxv⟩ := pGet' hpc hy
    have lx := X.rows x (List.mem_of_getElem? hx1)
    have leB := S₁.mono.trans le
    refine Call_ ?_
    walk_at "N"
    refine callF T₁ (by k_dflt k_is) (args_cons ?_)
    walk_at "N"
    refine args_cons ?_
    walk_at "N"
    refine args_nil ⟨F.sub.of_le le, ?_⟩
    refine by_ok (T₁.le le) F.sub ((R.deeper _).le (by omega)) (IntsV.mono _ _ _ _ leB hxv) (IntsV.mono _ _ _ _ leB hv0) (by omega) (by omega) (X.sm x (List.mem_of_getElem? hx1)) X.sma (by decide) (by decide) fun B₃ h₆ tk₄ t X => ?_
    exact ⟨B₃, _, h₆, _, rfl, X.le, pSnocTake g (by rw [rights, List.getElem?_map, hx1]; rfl) ⟨_, rfl⟩, mc_upd rfl, F.ext X⟩
  intro C D B₂ c₂ rvs h₄ tk₃ hC le₂ g _ eR F
  have g : Paired (IntV B₂) (rights cs aim) rvs := pWhole g (by simp [rights, lus])
  have lrv := pLen g
  have gR := g
  have lrr : (rights cs aim).length = n := by simp [rights, lcs]
  refine comp_none F (List.mem_cons_self ..) (fun x c hc q => hC.2 x c hc (List.mem_singleton.mpr q)) (hC.1 _ (List.mem_singleton.mpr rfl)) fun h₅ F₁ => args_nil ?_
  refine mkTup F₁ fun B₃ h₆ t' le₃ et F₂ => ?_
  refine unpk R.quiet F₂ et rfl fun h₇ F₃ => ?_
  refine assignInOrder_cons (wpAny_bindName ?_)
  walk_at "storeName"
  intro h₈ tk₄ F₄
  refine assignInOrder_cons (wpAny_bindName ?_)
  walk_at "storeName"
  intro h₉ tk₅ F₅
  have T₅ := T.le F₅.mono
  have hpv5 : IMatV B₃ (prods cs) pv := IMatV.mono _ _ _ _ (le₂.trans le₃) hpv
  refine assignInOrder_nil (wpAny_execs_cons (Assign_Tuple (Call_ ?_)))
  walk_at "N"
  refine callF T₅ (by k_dflt k_is) (args_cons (Call_ ?_))
  walk_at "N"
  refine callF T₅ (by k_dflt k_is) (args_cons ?_)
  walk_at "N"
  refine args_nil ⟨F₅.sub, ?_⟩
  refine from_whole_ok T₅ F₅.sub ((R.deeper _).le (by omega)) hpv5 ⟨by rw [hsq.1]; omega, fun r hr => by rw [hsq.2 r hr]; omega⟩ fun B₄ h₁₀ tk₆ qv X₂ hqv => ?_
  have F₆ := F₅.ext X₂
  have T₆ := T.le F₆.mono
  refine args_cons ?_
  refine' comp_start [] ?hcl3 ?hk3 ?hn3 ?hg3 ?hs3
  case hcl3 => rfl
  case hk3 => rfl
  case hn3 => decide
  case hs3 => exact fun _ => rfl
  walk_at "N"
  refine iterL "number" R.quiet F₆ (X₂.le _ _ (le₃ _ _ eR)) fun h₁₁ I₂ IT₂ hN₂ st₂ F₇ => ?_
  refine comp_pure (ps := []) (fun i B₁ ys => Paired (RatV B₁) ((qrow (rights cs aim)).take i) ys) (IT₂ _) hN₂ st₂ F₇ (List.mem_cons_self ..) (by simpa using Paired.nil)
    (fun _ _ _ l g => pMono RatV.mono l g) (fits (by omega)) [] (fun p hp => by cases hp) (fun _ => rfl) .nil (fun C => canL (List.mem_cons_self ..)) ?_ ?_
  · rintro C D i B₅ m₂ ys h₁₂ tk₇ E' hi _ le g5 ⟨y, hy, rfl⟩ G
    refine tests_nil ?_
    rw [if_pos rfl]
    obtain ⟨x, hx1, tx, rfl⟩ := pGet' g hy
    refine Tuple_ (args_cons ?_)
    walk_at "N"
    refine args_cons (cI fun t₂ tk₈ => args_nil (mkTup G fun B₆ h₁₃ t₉ le₆ et₆ G₁ => ?_))
    exact ⟨B₆, _, h₁₃, _, rfl, le₆, pSnocTake (x := (x : Rat)) (pMono RatV.mono le₆ g5) (by rw [qrow, List.getElem?_map, hx1]; rfl) (.mk et₆ rfl rfl), mc_upd rfl, G₁⟩
  intro C₃ D₃ B₅ c₃ ys h₁₂ tk₇ hC₃ le₅ g5 _ eQ G
  refine comp_none G (List.mem_cons_self ..) (fun x c hc q => hC₃.2 x c hc (List.mem_singleton.mpr q)) (hC₃.1 _ (List.mem_singleton.mpr rfl)) fun h₁₃ G₁ => args_nil ⟨G₁.sub.of_le (X₂.le.trans le₅), ?_⟩
  have hqR : Rect n n (qmat (prods cs)) := qmat_rect hsq.1 hsq.2
  have hqw : wd (qmat (prods cs)) = n := wd_rect hqR hn1
  have hqB : Bnd 10 (qmat (prods cs)) := qmat_B hpsm (by decide)
  have hrl : (qrow (rights cs aim)).length = n := by rw [qrow, List.length_map]; exact lrr
  have haR := aug_rect hqR hrl
  have haB := aug_bnd hqB (qrow_B hrsm (by decide))
  have haw : wd (aug (qmat (prods cs)) (qrow (rights cs aim))) = n + 1 := wd_rect haR hn1
  have h5 : (5 : Nat) ^ (n + 1) ≤ 5 ^ 4 := Nat.pow_le_pow_right (by decide) (by omega)
  have h5' : (5 : Nat) ^ n ≤ 5 ^ 4 := Nat.pow_le_pow_right (by decide) (by omega)
  have e54 : (5 : Nat) ^ 4 = 625 := by decide
  have T₇ := T.le G₁.mono
  refine solve_ok (M := qmat (prods cs)) (b := qrow (rights cs aim)) T₇ G₁.sub ((R.deeper _).le (by omega)) (MatV.mono _ _ _ _ le₅ hqv) ⟨_, _, _, rfl, eQ, pWhole g5 (by rw [hrl, lrv]; exact lrr)⟩ hqR hrl hn1 (by omega) (by omega) hqB (qrow_B hrsm (by decide)) (by decide) (by omega) fun B₆ h₁₄ tk₈ ts f p X₃ ets hfree htold => ?_
  have htold : RowV B₆ (qsol cs aim) f := by
    rcases htold with q | q
    · exact absurd q.1 X.solv
    · exact q.2
  have hqsl : (qsol cs aim).length = n := by rw [qsol, sol_len, hqw]
  have hqsB : ∀ x ∈ qsol cs aim, RatB 6250 x := fun x hx => (sol_B haR haw haB (by decide) x hx).le (by omega)
  have G₂ := G₁.ext X₃
  refine asgT R.quiet G₂ ets rfl rfl fun h₁₅ G₃ => ?_
  refine assignInOrder_cons (wpAny_assign_Name ?_)
  walk_at "storeName"
  intro h₁₆ tk₉ G₄
  refine assignInOrder_cons (wpAny_assign_Name ?_)
  walk_at "storeName"
  intro h₁₇ tk₁₀ G₅
  have G₆ := G₅.forget (m' := mL [("columns", .ref lc), ("aim", .ref la), ("products", pv), ("right", .ref D), ("told", f), ("free", p)]) (mL_forget (by walk_at "known"))
  have leP : B₃.le B₆ := X₂.le.trans (le₅.trans X₃.le)
  have hpv6 : IMatV B₆ (prods cs) pv := IMatV.mono _ _ _ _ leP hpv5
  have eR6 := leP _ _ (le₃ _ _ eR)
  refine assignInOrder_nil ?_
  have T₈ := T.le G₆.mono
  have le06 := G₆.mono
  have hu6 : IMatV B₆ cs (.ref lc) := IMatV.mono _ _ _ _ le06 hu0
  have hv6 : IntsV B₆ aim (.ref la) := IntsV.mono _ _ _ _ le06 hv0
  have htold0 := htold
  obtain ⟨lf, fvs, cf, rfl, hlf, hpf⟩ := htold
  have lfv := pLen hpf
  refine wpAny_execs_cons (wpAny_If (isTrue_or (wpAny_isTrue_Compare1 ?_)))
  walk_at "N"
  refine cNone (is_none_ne (by simp) (wpAny_truthy_bool ?_))
  rw [if_neg (by decide)]
  refine isTrue_or (wpAny_isTrue_Compare1 (Call_ ?_))
  walk_at "N"
  refine cBuilt (args_cons ?_)
  walk_at "N"
  refine args_nil (lenL (pln_of G₆.sub hlf) (by omega) fun _ _ => Call_ ?_)
  walk_at "N"
  refine cBuilt (args_cons ?_)
  walk_at "N"
  refine args_nil (lenL (pln_of G₆.sub (le06 _ _ hlc)) (by omega) fun _ tk₁₁ => PyProof.Rows.ne_int (wpAny_truthy_bool ?_))
  rw [if_neg (by rw [bne_iff_ne]; omega)]
  refine isTrue_or_nil ?_
  rw [if_neg (by decide)]
  refine wpAny_execs_nil (wpAny_execs_cons (Assign_Tuple (Call_ ?_)))
  walk_at "N"
  refine callF T₈ (by k_dflt k_is) (args_cons ?_)
  walk_at "N"
  refine args_cons ?_
  walk_at "N"
  refine args_cons ?_
  walk_at "N"
  refine args_nil ⟨G₆.sub, ?_⟩
  have sm8 : SmM 8 cs := fun r hr x hx => (X.sm r hr x hx).le (by decide)
  have sma8 : ∀ x ∈ aim, Sm 8 x := fun x hx => (X.sma x hx).le (by decide)
  refine rest_ok (K := 6250) T₈ G₆.sub ((R.deeper _).le (by omega)) hu6 htold0 hv6 X.rows hal (by decide) (by omega) (by omega) sm8 sma8 (by decide) (by decide) hqsB fun B₇ h₁₈ tk₁₂ tr lr tt X₄ etr hleft => ?_
  have hleft : IntsV B₇ (leftOf cs aim) lr := hleft
  have hlsm : ∀ x ∈ leftOf cs aim, Sm 40000 x := fun x hx => (restTo_sm (K := 6250) (b := 8) (by decide) hqsB sm8 sma8 _ x hx).le (by omega)
  have hll : (leftOf cs aim).length = 4 := restTo_len X.rows hal _ (Nat.le_refl _)
  have G₇ := G₆.ext X₄
  refine asgT R.quiet G₇ etr rfl rfl fun h₁₉ G₈ => ?_
  refine assignInOrder_cons (wpAny_assign_Name ?_)
  walk_at "storeName"
  intro h₂₀ tk₁₃ G₉
  refine assignInOrder_cons (wpAny_assign_Name ?_)
  walk_at "storeName"
  intro h₂₁ tk₁₄ G₁₀
  have le07 := G₁₀.mono
  have T₉ := T.le G₁₀.mono
  refine assignInOrder_nil (wpAny_execs_cons (wpAny_If (wpAny_isTrue_Compare1 ?_)))
  refine' comp_start [("left", L + 1 + 1 + 1)] ?hcl4 ?hk4 ?hn4 ?hg4 ?hs4
  case hcl4 => rfl
  case hk4 => rfl
  case hn4 => decide
  case hs4 => exact fun _ => rfl
  walk_at "N"
  refine iterL "column" R.quiet G₁₀ (le07 _ _ hlc) fun h₂₂ I₄ IT₄ hN₄ st₄ G₁₁ => ?_
  refine comp_pure (ps := []) (fun i B₁ ys => ys = []) (IT₄ _) hN₄ st₄ G₁₁ (List.mem_cons_self ..) rfl
    (fun _ _ _ _ g => g) (fits (by omega)) ["left"] (by walk_at "cells known") (fun _ => rfl) (by decide +kernel) (fun C => canL (List.mem_cons_self ..)) ?_ ?_
  · rintro C D i B₈ m₂ ys h₂₃ tk₁₅ E' hi _ le8 rfl ⟨y, hy, rfl⟩ F
    obtain ⟨x, hx1, hxv⟩ := pGet' hpc hy
    have hxm := List.mem_of_getElem? hx1
    have lx := X.rows x hxm
    refine tests_one (wpAny_isTrue_Compare1 (Call_ ?_))
    walk_at "N"
    refine callF T₉ (by k_dflt k_is) (args_cons ?_)
    walk_at "N"
    refine args_cons ?_
    walk_at "N"
    refine args_nil ⟨F.sub.of_le le8, ?_⟩
    refine by_ok (T₉.le le8) F.sub ((R.deeper _).le (by omega)) (IntsV.mono _ _ _ _ (le07.trans le8) hxv) (IntsV.mono _ _ _ _ le8 hleft) (by omega) (by omega) (X.sm x hxm) hlsm (by decide) (by decide) fun B₉ h₂₄ tk₁₆ t X₅ => ?_
    refine cI fun _ tk₁₇ => PyProof.Rows.ne_int (wpAny_truthy_bool ?_)
    rw [if_neg (by rw [X.upright x hxm]; decide)]
    exact ⟨B₉, _, h₂₄, _, rfl, X₅.le, rfl, mc_upd rfl, F.ext X₅⟩
  intro C₄ D₄ B₈ c₄ ys h₂₃ tk₁₅ hC₄ le78 g _ eD₄ F₈
  subst g
  refine comp_none F₈ (List.mem_cons_self ..) (fun x c hc q => hC₄.2 x c hc (List.mem_singleton.mpr q)) (hC₄.1 _ (List.mem_singleton.mpr rfl)) fun h₂₄ F₉ => List_ (args_nil ?_)
  refine mkLstB F₉ fun B₉ h₂₅ l₉ le89 e₉ F₁₀ => ?_
  refine neInts (ns := []) (ms := []) (B := B₉) (pln_of F₁₀.sub (le89 _ _ eD₄)) (pln_of F₁₀.sub e₉) .nil .nil ((R.deeper _).le (by omega)) (wpAny_truthy_bool ?_)
  rw [if_neg (by decide)]
  have F₁₁ := F₁₀.forget (m' := mL [("columns", .ref lc), ("aim", .ref la), ("products", pv), ("right", .ref D), ("free", p), ("times", .int (prodDen (qsol cs aim)) tt), ("left", lr)]) (mL_forget (by walk_at "known"))
  have le79 := le78.trans le89
  have le69 : B₆.le B₉ := X₄.le.trans le79
  have hfree0 := MatV.mono _ _ _ _ le69 hfree
  have hfree1 := hfree0
  obtain ⟨lfr, frs, cfr, rfl, hlfr, hpfr⟩ := hfree0
  have lfrs := pLen hpfr
  have hcnt := X.count
  refine wpAny_execs_nil (wpAny_execs_cons (wpAny_For ?_))
  walk_at "N"
  refine iterL "numbers" R.quiet F₁₁ hlfr fun h₂₆ I₅ IT₅ hN₅ st₅ F₁₂ => ?_
  refine forLoop (fun k B m ps => m = mL [("columns", .ref lc), ("aim", .ref la), ("products", pv), ("right", .ref D), ("free", .ref lfr), ("times", .int (prodDen (qsol cs aim)) tt), ("left", lr)] ∧ ps = [])
    (IT₅ _) (canL (List.mem_cons_self ..)) hN₅ (List.mem_cons_self ..) F₁₂ st₅ ⟨rfl, rfl⟩ ?_ ?_
  · rintro k B₁₀ m₁ m₂ ps₁ h₂₇ tk₁₆ E' hk le10 ⟨rfl, rfl⟩ ⟨qv, hqv1, rfl⟩ N
    obtain ⟨q, hq1, hqv2⟩ := pGet' hpfr hqv1
    have hqm := List.mem_of_getElem? hq1
    have lq : q.length = n := by rw [nullBase_len q hqm, hqw]
    have bq : ∀ x ∈ q, RatB 6250 x := fun x hx => (nullBase_B hqR hqw hqB (by decide) q hqm x hx).le (by omega)
    have T₁₀ := T.le N.mono
    refine wpAny_execs_cons (wpAny_If (wpAny_isTrue_Compare1 ?_))
    refine' comp_start [] ?hcl5 ?hk5 ?hn5 ?hg5 ?hs5
    case hcl5 => rfl
    case hk5 => rfl
    case hn5 => decide
    case hs5 => exact fun _ => rfl
    refine Subscript_ (Call_ ?_)
    walk_at "N"
    refine callF T₁₀ (by k_dflt k_is) (args_cons ?_)
    walk_at "N"
    refine args_cons ?_
    walk_at "N"
    refine args_cons (wpAny_BinOp (List_ (args_cons (cI fun t0 tk₁₇ => args_nil ?_))))
    refine mkLstB N fun B₁₁ h₂₈ l₀ le11 e₀ N₁ => Call_ ?_
    walk_at "N"
    refine cBuilt (args_cons ?_)
    walk_at "N"
    refine args_nil (lenL (pln_of N₁.sub (N₁.mono _ _ hla)) (by omega) fun _ tk₁₈ => ?_)
    refine mulList N₁ (pln_of N₁.sub e₀) (by omega) fun h₂₉ D₅ hnD N₂ => ?_
    obtain ⟨B₁₂, le12, ⟨oD, eD5, cD, rfl⟩, N₃⟩ := N₂.freeze (by simp)
    refine args_nil ⟨N₃.sub.of_le (le11.trans le12), ?_⟩
    have hz : IntsV B₁₂ (List.replicate 4 0) (.ref D₅) := ⟨_, _, _, rfl, eD5, by
      rw [show as.length = 4 by omega]
      have : ∀ n, Paired (IntV B₁₂) (List.replicate n 0) (List.replicate n (.int 0 t0)) := fun n => by
        induction n with
        | zero => exact .nil
        | succ n ih => rw [List.replicate_succ, List.replicate_succ]; exact .cons ⟨_, rfl⟩ ih
      exact this 4⟩
    refine rest_ok (K := 6250) (T.le N₃.mono) N₃.sub ((R.deeper _).le (by omega)) (IMatV.mono _ _ _ _ N₃.mono hu0) (RowV.mono _ _ _ _ (le10.trans (le11.trans le12)) hqv2) hz X.rows (by simp) (by decide) (by omega) (by omega) sm8 (fun x hx => by rw [(List.mem_replicate.mp hx).2]; exact Sm.lit _ (by decide)) (by decide) (by decide) bq fun B₁₃ h₃₀ tk₁₉ t₁₃ l₁₃ tt₁₃ X₅ et₁₃ hl₁₃ => ?_
    have N₄ := N₃.ext X₅
    refine cI fun _ tk₂₀ => itemT N₄ et₁₃ (by decide) (by decide) rfl ?_
    obtain ⟨lr3, vr3, cr3, rfl, hlr3, hpr3⟩ := hl₁₃
    have lvr3 : vr3.length = 4 := by rw [pLen hpr3]; exact restTo_len X.rows (by simp) _ (Nat.le_refl _)
    refine iterL "number" R.quiet N₄ hlr3 fun h₃₁ I₆ IT₆ hN₆ st₆ N₅ => ?_
    refine comp_pure (fun i B₁ ys => ys = []) (IT₆ _) hN₆ st₆ N₅ (List.mem_cons_self ..) rfl
      (fun _ _ _ _ g => g) (fits (by omega)) [] (fun p hp => by cases hp) (fun _ => rfl) .nil (fun C => canL (List.mem_cons_self ..)) ?_ ?_
    · rintro C D i B₁₄ m₂ ys h₃₂ tk₂₁ E' hi _ le14 rfl ⟨y, hy, rfl⟩ G
      obtain ⟨x, hx1, tx, rfl⟩ := pGet' hpr3 hy
      have hx0 : x = 0 := X.nulls q hqm x (List.mem_of_getElem? hx1)
      refine tests_one (wpAny_isTrue_Compare1 ?_)
      walk_at "N"
      refine cI fun _ tk₂₂ => PyProof.Rows.ne_int (wpAny_truthy_bool ?_)
      rw [if_neg (by rw [hx0]; decide)]
      exact ⟨B₁₄, _, h₃₂, _, rfl, .rfl, rfl, mc_upd rfl, G⟩
    intro C₆ D₆ B₁₄ c₆ ys h₃₂ tk₂₁ hC₆ le14 g _ eD₆ G
    subst g
    refine comp_none G (List.mem_cons_self ..) (fun x c hc q => hC₆.2 x c hc (List.mem_singleton.mpr q)) (hC₆.1 _ (List.mem_singleton.mpr rfl)) fun h₃₃ G₁ => List_ (args_nil ?_)
    refine mkLstB G₁ fun B₁₅ h₃₄ l₁₅ le15 e₁₅ G₂ => ?_
    refine neInts (ns := []) (ms := []) (B := B₁₅) (pln_of G₂.sub (le15 _ _ eD₆)) (pln_of G₂.sub e₁₅) .nil .nil ((R.deeper _).le (by omega)) (wpAny_truthy_bool ?_)
    rw [if_neg (by decide)]
    refine wpAny_execs_nil (wpAny_execs_nil ?_)
    exact ⟨B₁₅, _, [], h₃₄, _, rfl, le11.trans (le12.trans (X₅.le.trans (le14.trans le15))), ⟨rfl, rfl⟩, G₂.forget (mL_forget (by walk_at "known"))⟩
  rintro B₁₀ m₁ ps₁ h₂₇ tk₁₆ le10 ⟨rfl, rfl⟩ N
  have T₁₀ := T.le N.mono
  -- the rank
  refine wpAny_execs_cons (wpAny_Assign_Name (Call_ ?_))
  walk_at "N"
  refine callF T₁₀ (by k_dflt k_is) (args_cons (Call_ ?_))
  walk_at "N"
  refine callF T₁₀ (by k_dflt k_is) (args_cons ?_)
  refine' comp_start [("columns", L + 1)] ?hcl6 ?hk6 ?hn6 ?hg6 ?hs6
  case hcl6 => rfl
  case hk6 => rfl
  case hn6 => decide
  case hs6 => exact fun _ => rfl
  refine Call_ ?_
  walk_at "N"
  refine cType (args_cons (Call_ ?_))
  walk_at "N"
  refine cBuilt (args_cons ?_)
  walk_at "N"
  refine args_nil (lenL (pln_of N.sub (N.mono _ _ hla)) (by omega) fun _ tk₁₇ => args_nil ?_)
  refine mkRange1 N fun B₁₁ h₂₈ r₁₁ ta tb tc tk₁₈ le11 er N₁ => ?_
  refine iterR "at" R.quiet N₁ er (by decide) (by decide) (by omega) (by omega) fun h₂₉ I₇ IT₇ hN₇ st₇ N₂ => ?_
  rw [show ((as.length : Int) - 0).toNat = 4 by omega] at IT₇
  refine comp_pure (ps := []) (fun i B₁ ys => Paired (IntsV B₁) ((transp cs 4).take i) ys) (IT₇ _) hN₇ st₇ N₂ (List.mem_cons_self ..) (by simpa using Paired.nil)
    (fun _ _ _ l g => pMono IntsV.mono l g) (fits (by omega)) ["at", "columns"] (by walk_at "cells known") (fun _ => rfl) (by decide +kernel) (fun C => canC (c := C + 1) (List.mem_cons_of_mem _ (List.mem_cons_self ..))) ?_ ?_
  · rintro C D i B₁₂ m₂ ys h₃₀ tk₁₉ E' hi _ le12 g ⟨_, ⟨ti, rfl⟩, rfl⟩ F
    refine tests_nil ?_
    rw [if_pos rfl]
    refine' comp_start [("at", C + 1)] ?hcl7 ?hk7 ?hn7 ?hg7 ?hs7
    case hcl7 => rfl
    case hk7 => rfl
    case hn7 => decide
    case hs7 => exact fun _ => rfl
    walk_at "N"
    have leC := N.mono.trans (le11.trans le12)
    refine iterL "column" R.quiet F (leC _ _ hlc) fun h₃₁ I₈ IT₈ hN₈ st₈ F₁ => ?_
    refine comp_pure (fun j B₁ zs => Paired (IntV B₁) ((cs.map fun c : List Int => c.getD i (0 : Int)).take j) zs) (IT₈ _) hN₈ st₈ F₁ (List.mem_cons_self ..) (by simpa using Paired.nil)
      (fun _ _ _ _ g => g) (fits (by omega)) ["at"] (by walk_at "cells known") (fun _ => rfl) (by decide +kernel) (fun C => canL (List.mem_cons_self ..)) ?_ ?_
    · rintro C₂ D₂ j B₁₃ m₃ zs h₃₂ tk₂₀ E₂ hj _ le13 g₂ ⟨y, hy, rfl⟩ F₂
      refine tests_nil ?_
      rw [if_pos rfl]
      obtain ⟨x, hx1, lx1, vx1, cx1, rfl, hlx1, hpx1⟩ := pGet' hpc hy
      have lx := X.rows x (List.mem_of_getElem? hx1)
      obtain ⟨z, hz1, tz, rfl⟩ := pGet hpx1 (get_getD 0 (i := i) (by omega))
      refine Subscript_ ?_
      walk_at "N"
      walk_at "N"
      refine itemL (pln_of F₂.sub (le13 _ _ (leC _ _ hlx1))) (by omega) (by omega) (by rw [show ((0 : Int) + (i : Int)).toNat = i by omega]; exact hz1) ?_
      exact ⟨B₁₃, _, h₃₂, _, rfl, .rfl, pSnocTake g₂ (by rw [List.getElem?_map, hx1]; rfl) ⟨_, rfl⟩, mc_upd rfl, F₂⟩
    · intro C₂ D₂ B₁₃ c₁₃ zs h₃₂ tk₂₀ hC2 le13 g₂ _ e₁₃ F₂
      refine comp_none F₂ (List.mem_cons_self ..) (fun x c hc q => hC2.2 x c hc (List.mem_singleton.mpr q)) (hC2.1 _ (List.mem_singleton.mpr rfl)) fun h₃₃ F₃ => ?_
      exact ⟨B₁₃, _, h₃₃, _, rfl, le13, pSnocTake (x := cs.map fun c : List Int => c.getD i (0 : Int)) (pMono IntsV.mono le13 g) (by rw [transp, List.getElem?_map, List.getElem?_range hi]; rfl) ⟨_, _, _, rfl, e₁₃, pWhole g₂ (by simp [lus])⟩, mc_upd rfl, F₃⟩
  intro C₇ D₇ B₁₂ c₇ tvs h₃₀ tk₁₉ hC₇ le12 g _ eD₇ F
  have htl : (transp cs 4).length = 4 := by simp [transp]
  have htr : ∀ r ∈ transp cs 4, r.length = n := fun r hr => by
    obtain ⟨x, _, rfl⟩ := List.mem_map.mp hr
    rw [List.length_map]; exact lcs
  have hts : SmM 10 (transp cs 4) := fun r hr x hx => by
    obtain ⟨i, _, rfl⟩ := List.mem_map.mp hr
    obtain ⟨c, hc, rfl⟩ := List.mem_map.mp hx
    exact (sm_getD (X.sm c hc) i).le (by decide)
  have htv : IMatV B₁₂ (transp cs 4) (.ref D₇) := ⟨_, _, _, rfl, eD₇, pWhole g (by rw [htl])⟩
  refine comp_none F (List.mem_cons_self ..) (fun x c hc q => hC₇.2 x c hc (List.mem_singleton.mpr q)) (hC₇.1 _ (List.mem_singleton.mpr rfl)) fun h₃₁ F₁ => args_nil ⟨F₁.sub.of_le (le11.trans le12), ?_⟩
  refine from_whole_ok (T.le F₁.mono) F₁.sub ((R.deeper _).le (by omega)) htv ⟨by rw [htl]; decide, fun r hr => by rw [htr r hr]; omega⟩ fun B₁₃ h₃₂ tk₂₀ mv X₆ hmv => args_nil ⟨X₆.sub.of_le ((le11.trans le12).trans X₆.le), ?_⟩
  have F₂ := F₁.ext X₆
  have htR : Rect 4 n (qmat (transp cs 4)) := qmat_rect htl htr
  refine rank_ok (k := 10) (T.le F₂.mono) F₂.sub ((R.deeper _).le (by omega)) hmv htR (wd_rect htR (by decide)) (by decide) (by omega) (qmat_B hts (by decide)) (by decide) (by omega) fun B₁₄ h₃₃ tk₂₁ tmany X₇ => ?_
  have F₃ := F₂.ext X₇
  walk_at "storeName"
  intro h₃₄ tk₂₂ F₄
  have hdsm : Sm 200 (detV (prods cs)) := (detV_sm hsq hpsm (by decide)).le (by
    have : (2 : Nat) ^ n ≤ 2 ^ 3 := Nat.pow_le_pow_right (by decide) hn3
    omega)
  have h2n : (2 : Nat) ^ n ≤ 2 ^ 3 := Nat.pow_le_pow_right (by decide) hn3
  have hsq' := prods_sq (cs ++ [aim])
  rw [show (cs ++ [aim]).length = n + 1 by simp [lcs]] at hsq'
  have hrows' : ∀ c ∈ cs ++ [aim], c.length = 4 := fun c hc => by
    rcases List.mem_append.mp hc with q | q
    · exact X.rows c q
    · rw [List.mem_singleton.mp q]; exact hal
  have hsm' : SmM 3 (cs ++ [aim]) := fun c hc => by
    rcases List.mem_append.mp hc with q | q
    · exact X.sm c q
    · rw [List.mem_singleton.mp q]; exact X.sma
  have h2n' : (2 : Nat) ^ (n + 1) ≤ 2 ^ 4 := Nat.pow_le_pow_right (by decide) (by omega)
  have hwsm : Sm 200 (wideOf cs aim) := (detV_sm hsq' (prods_sm hsm' hrows') (by decide)).le (by omega)
  have le9n := F₄.mono
  have T₁₁ := T.le F₄.mono
  have lepv : B₆.le B₁₄ := le69.trans (le10.trans ((le11.trans le12).trans (X₆.le.trans X₇.le)))
  have hpv14 := IMatV.mono _ _ _ _ lepv hpv6
  refine wpAny_execs_cons (Assign_Tuple_swapped (names := ["number", "wide"]) (Tuple_ (args_cons (Call_ ?_))))
  walk_at "N"
  refine callF T₁₁ (by k_dflt k_is) (args_cons ?_)
  walk_at "N"
  refine args_nil ⟨F₄.sub, ?_⟩
  refine determinant_ok (M := prods cs) (k := 10) T₁₁ F₄.sub ((R.deeper _).le (by omega)) hpv14 hsq (by omega) hpsm (by decide) (by omega) X.good fun B₁₅ h₃₅ tk₂₃ tnum X₈ => args_cons (Call_ ?_)
  have F₅ := F₄.ext X₈
  walk_at "N"
  have T₁₂ := T.le F₅.mono
  refine callF T₁₂ (by k_dflt k_is) (args_cons (Call_ ?_))
  walk_at "N"
  refine callF T₁₂ (by k_dflt k_is) (args_cons (wpAny_BinOp ?_))
  walk_at "N"
  refine List_ (args_cons ?_)
  walk_at "N"
  refine args_nil (mkLstB F₅ fun B₁₆ h₃₆ l₁₆ le16 e₁₆ F₆ => ?_)
  refine addList F₆ (pln_of F₆.sub (F₆.mono _ _ hlc)) (pln_of F₆.sub e₁₆) (by simp; omega) fun B₁₇ h₃₇ D₁₇ c₁₇ le17 e₁₇ F₇ => args_nil ⟨F₇.sub.of_le (le16.trans le17), ?_⟩
  have hcat : IMatV B₁₇ (cs ++ [aim]) (.ref D₁₇) := ⟨_, _, _, rfl, e₁₇, pAppend (pMono IntsV.mono F₇.mono hpc) (.cons (IntsV.mono _ _ _ _ F₇.mono hv0) .nil)⟩
  refine products_ok (T.le F₇.mono) F₇.sub ((R.deeper _).le (by omega)) hcat hrows' (by decide) (by simp; omega) hsm' (by decide) fun B₁₈ h₃₈ tk₂₄ wv X₉ hwv => args_nil ⟨X₉.sub.of_le ((le16.trans le17).trans X₉.le), ?_⟩
  have F₈' := F₇.ext X₉
  refine determinant_ok (M := prods (cs ++ [aim])) (k := 10) (T.le F₈'.mono) F₈'.sub ((R.deeper _).le (by omega)) hwv hsq' (by omega) (prods_sm hsm' hrows') (by decide) (by omega) X.good' fun B₁₉ h₃₉ tk₂₅ twide X₁₀ => args_nil ?_
  have F₉' := F₈'.ext X₁₀
  refine mkTup F₉' fun B₂₀ h₄₀ t₂₀ le20 et₂₀ F₁₀' => ?_
  refine unpk R.quiet F₁₀' et₂₀ rfl fun h₄₁ K₁ => ?_
  refine assignInOrder_cons (wpAny_bindName ?_)
  walk_at "storeName"
  intro h₄₂ tk₂₆ K₂
  refine assignInOrder_cons (wpAny_bindName ?_)
  walk_at "storeName"
  intro h₄₃ tk₂₇ K₃
  have K₄ := K₃.forget (m' := mL [("columns", .ref lc), ("aim", .ref la), ("products", pv), ("right", .ref D), ("free", .ref lfr), ("times", .int (prodDen (qsol cs aim)) tt), ("left", lr), ("many", .int (ech (qmat (transp cs 4))).2.length tmany), ("number", .int (detV (prods cs)) tnum), ("wide", .int (detV (prods (cs ++ [aim]))) twide)]) (mL_forget (by walk_at "known"))
  have leE : B₁₄.le B₂₀ := X₈.le.trans ((le16.trans le17).trans (X₉.le.trans (X₁₀.le.trans le20)))
  have le6e := lepv.trans leE
  have hfreeE : MatV B₂₀ _ _ := MatV.mono _ _ _ _ ((le10.trans ((le11.trans le12).trans (X₆.le.trans X₇.le))).trans leE) hfree1
  have hlfrE := ((le10.trans ((le11.trans le12).trans (X₆.le.trans X₇.le))).trans leE) _ _ hlfr
  have T₂₀ := T.le K₄.mono
  have hc2 := X.count
  refine assignInOrder_nil (wpAny_execs_cons (wpAny_If (isTrue_or (wpAny_isTrue_Compare1 (wpAny_BinOp ?_)))))
  walk_at "N"
  refine Call_ ?_
  walk_at "N"
  refine cBuilt (args_cons ?_)
  walk_at "N"
  refine args_nil (lenL (pln_of K₄.sub hlfrE) (by omega) fun _ tk₂₈ => addI fun _ tk₂₉ => Call_ ?_)
  walk_at "N"
  refine cBuilt (args_cons ?_)
  walk_at "N"
  refine args_nil (lenL (pln_of K₄.sub (K₄.mono _ _ hlc)) (by omega) fun _ tk₃₀ => PyProof.Rows.ne_int (wpAny_truthy_bool ?_))
  rw [if_neg (by rw [bne_iff_ne]; unfold rankOf at hc2; omega)]
  refine isTrue_or (wpAny_isTrue_Compare1 (wpAny_Compare1 ?_))
  walk_at "N"
  refine cI fun _ tk₃₁ => PyProof.Rows.eq_int (wpAny_Compare1 ?_)
  walk_at "N"
  refine List_ (args_nil (mkLstB K₄ fun B₂₁ h₄₄ l₂₁ le21 e₂₁ K₅ => ?_))
  refine neNil K₅.sub (MatV.mono _ _ _ _ le21 hfreeE) e₂₁ ((R.deeper _).le (by omega)) (ne_bool (wpAny_truthy_bool ?_))
  rw [if_neg (by
    have := X.free
    by_cases q : detV (prods cs) = 0
    · rw [q, decide_eq_true (this.mp q)]; decide
    · rw [decide_eq_false fun z => q (this.mpr z)]; simpa using q)]
  refine isTrue_or_nil ?_
  rw [if_neg (by decide)]
  have leF : B₆.le B₂₁ := le6e.trans le21
  have hleftF : IntsV B₂₁ (leftOf cs aim) lr := IntsV.mono _ _ _ _ (le79.trans ((le10.trans ((le11.trans le12).trans (X₆.le.trans X₇.le))).trans (leE.trans le21))) hleft
  have hpvF : IMatV B₂₁ (prods cs) pv := IMatV.mono _ _ _ _ leF hpv6
  have haimF : IntsV B₂₁ aim (.ref la) := IntsV.mono _ _ _ _ K₅.mono hv0
  have eRF := leF _ _ eR6
  have T₂₁ := T.le K₅.mono
  have hPs : Sm 20000 (prodDen (qsol cs aim)) := (prodDen_sm hqsB).le (by omega)
  have hgram := X.gram
  unfold wideOf at hgram hwsm
  refine wpAny_execs_nil (wpAny_execs_cons (wpAny_If (isTrue_or (wpAny_isTrue_Compare1 (wpAny_BinOp (Call_ ?_))))))
  walk_at "N"
  refine callF T₂₁ (by k_dflt k_is) (args_cons ?_)
  walk_at "N"
  refine args_cons ?_
  walk_at "N"
  refine args_nil ⟨K₅.sub, ?_⟩
  refine by_ok T₂₁ K₅.sub ((R.deeper _).le (by omega)) hleftF hleftF rfl (by omega) hlsm hlsm (by decide) (by decide) fun B₂₂ h₄₅ tk₃₂ t₂₂ Y₁ => ?_
  have K₆ := K₅.ext Y₁
  walk_at "N"
  refine mulI (k := 90000) ((dot_sm hlsm hlsm (by rw [hll]; exact Nat.le_refl _)).le (by decide)) hdsm (by decide) (by decide) fun t₂₃ tk₃₃ => wpAny_BinOp (wpAny_BinOp ?_)
  walk_at "N"
  walk_at "N"
  refine mulI hPs hPs (by decide) (by decide) fun t₂₄ tk₃₄ => ?_
  walk_at "N"
  refine mulI (k := 40000) ((hPs.mul hPs).le (by decide)) hwsm (by decide) (by decide) fun t₂₅ tk₃₅ => PyProof.Rows.ne_int (wpAny_truthy_bool ?_)
  rw [if_neg (by rw [hgram]; simp)]
  refine isTrue_or (wpAny_isTrue_Compare1 ?_)
  have T₂₂ := T.le K₆.mono
  refine' comp_start [] ?hcl8 ?hk8 ?hn8 ?hg8 ?hs8
  case hcl8 => rfl
  case hk8 => rfl
  case hn8 => decide
  case hs8 => exact fun _ => rfl
  refine Call_ ?_
  walk_at "N"
  refine callF T₂₂ (by k_dflt k_is) (args_cons ?_)
  walk_at "N"
  refine args_nil ⟨K₆.sub, ?_⟩
  refine leading_ok (M := prods cs) (k := 10) T₂₂ K₆.sub ((R.deeper _).le (by omega)) (IMatV.mono _ _ _ _ Y₁.le hpvF) hsq (by omega) hpsm (by decide) (by omega) X.goods fun B₂₃ h₄₆ tk₃₆ mv Y₂ hmv => ?_
  have K₇ := K₆.ext Y₂
  obtain ⟨lm, mvs, cm, rfl, hlm, hpm⟩ := hmv
  have lmvs : mvs.length = n := by rw [pLen hpm]; simp [minors, hsq.1]
  refine iterL "one" R.quiet K₇ hlm fun h₄₇ I₉ IT₉ hN₉ st₉ K₈ => ?_
  refine comp_pure (ps := []) (fun i B₁ ys => ys = []) (IT₉ _) hN₉ st₉ K₈ (List.mem_cons_self ..) rfl
    (fun _ _ _ _ g => g) (fits (by omega)) [] (fun p hp => by cases hp) (fun _ => rfl) .nil (fun C => canL (List.mem_cons_self ..)) ?_ ?_
  · rintro C D i B₂₄ m₂ ys h₄₈ tk₃₇ E' hi _ le24 rfl ⟨y, hy, rfl⟩ G
    obtain ⟨x, hx1, tx, rfl⟩ := pGet' hpm hy
    have hx0 := X.minors x (List.mem_of_getElem? hx1)
    refine tests_one (wpAny_isTrue_Compare1 ?_)
    walk_at "N"
    refine cI fun _ tk₃₈ => PyProof.Rows.lt_int (wpAny_truthy_bool ?_)
    rw [if_neg (by rw [decide_eq_true_eq]; omega)]
    exact ⟨B₂₄, _, h₄₈, _, rfl, .rfl, rfl, mc_upd rfl, G⟩
  intro C₉ D₉ B₂₄ c₉ ys h₄₈ tk₃₇ hC₉ le24 g _ eD₉ G
  subst g
  refine comp_none G (List.mem_cons_self ..) (fun x c hc q => hC₉.2 x c hc (List.mem_singleton.mpr q)) (hC₉.1 _ (List.mem_singleton.mpr rfl)) fun h₄₉ K₉ => List_ (args_nil ?_)
  refine mkLstB K₉ fun B₂₅ h₅₀ l₂₅ le25 e₂₅ K₁₀ => ?_
  refine neInts (ns := []) (ms := []) (B := B₂₅) (pln_of K₁₀.sub (le25 _ _ eD₉)) (pln_of K₁₀.sub e₂₅) .nil .nil ((R.deeper _).le (by omega)) (wpAny_truthy_bool ?_)
  rw [if_neg (by decide)]
  refine isTrue_or_nil ?_
  rw [if_neg (by decide)]
  have leG : B₂₁.le B₂₅ := Y₁.le.trans (Y₂.le.trans (le24.trans le25))
  have T₂₅ := T.le K₁₀.mono
  have haimG := IntsV.mono _ _ _ _ leG haimF
  have hadot : Sm 10 (dot aim aim) := dot_sm X.sma X.sma (by rw [hal]; exact Nat.le_refl _)
  refine wpAny_execs_nil (wpAny_execs_cons (wpAny_Assign_Name (wpAny_BinOp ?_)))
  walk_at "N"
  refine Call_ ?_
  walk_at "N"
  refine callF T₂₅ (by k_dflt k_is) (args_cons ?_)
  walk_at "N"
  refine args_cons ?_
  walk_at "N"
  refine args_nil ⟨K₁₀.sub, ?_⟩
  refine by_ok T₂₅ K₁₀.sub ((R.deeper _).le (by omega)) haimG haimG rfl (by omega) X.sma X.sma (by decide) (by decide) fun B₂₆ h₅₁ tk₃₉ t₂₆ Y₃ => ?_
  have K₁₁ := K₁₀.ext Y₃
  refine mulI hdsm hadot (by decide) (by decide) fun t₂₇ tk₄₀ => ?_
  walk_at "storeName"
  intro h₅₂ tk₄₁ K₁₂
  have K₁₃ := K₁₂.forget (m' := mL [("right", .ref D), ("times", .int (prodDen (qsol cs aim)) tt), ("left", lr), ("many", .int (ech (qmat (transp cs 4))).2.length tmany), ("number", .int (detV (prods cs)) tnum), ("wide", .int (detV (prods (cs ++ [aim]))) twide), ("most", .int (detV (prods cs) * dot aim aim) t₂₇)]) (mL_forget (by walk_at "known"))
  have hw0 := X.wide0
  have hw1 := X.wide1
  have hmost := X.most
  unfold wideOf at hw0 hw1 hmost
  refine wpAny_execs_cons (wpAny_If (isTrue_or (isTrue_not (isTrue_chain (cI fun _ tk₄₂ => test_link ?_)))))
  walk_at "N"
  refine PyProof.Rows.le_int (wpAny_truthy_bool ?_)
  rw [if_pos (by rw [decide_eq_true_eq]; exact hw0)]
  refine test_last ?_
  walk_at "N"
  refine PyProof.Rows.le_int (wpAny_truthy_bool ?_)
  rw [decide_eq_true hw1, if_neg (by decide)]
  refine isTrue_or (isTrue_and (wpAny_isTrue_Compare1 ?_))
  walk_at "N"
  refine cI fun _ tk₄₃ => PyProof.Rows.ne_int (wpAny_truthy_bool ?_)
  have leH := leG.trans Y₃.le
  by_cases hd0 : detV (prods cs) = 0
  · rw [if_neg (by rw [hd0]; decide), if_neg (by decide)]
    refine isTrue_or_nil ?_
    rw [if_neg (by decide)]
    refine wpAny_execs_nil (wpAny_execs_cons (wpAny_Return_some (Tuple_ (args_cons ?_))))
    walk_at "N"
    refine args_cons ?_
    walk_at "N"
    refine args_cons ?_
    walk_at "N"
    refine args_nil (mkTup K₁₃ fun B₄₀ h₄₀' t₄₀ le40 et₄₀ Z => ?_)
    exact hq B₄₀ h₄₀' _ t₄₀ lr tmany tt Z.toExt et₄₀ (IntsV.mono _ _ _ _ (leH.trans le40) hleftF)
  rw [if_pos (by rw [bne_iff_ne]; exact hd0)]
  refine isTrue_and (wpAny_isTrue_Compare1 (wpAny_Compare1 ?_))
  walk_at "N"
  walk_at "N"
  refine PyProof.Rows.eq_int (wpAny_Compare1 ?_)
  refine' comp_start [] ?hcl9 ?hk9 ?hn9 ?hg9 ?hs9
  case hcl9 => rfl
  case hk9 => rfl
  case hn9 => decide
  case hs9 => exact fun _ => rfl
  walk_at "N"
  have eRG := leH _ _ eRF
  refine iterL "one" R.quiet K₁₃ eRG fun h₅₃ I₁₀ IT₁₀ hN₁₀ st₁₀ K₁₄ => ?_
  refine comp_pure (ps := []) (fun i B₁ ys => Paired (IntV B₁) (((rights cs aim).take i).filter fun x => decide (x ≠ 0)) ys) (IT₁₀ _) hN₁₀ st₁₀ K₁₄ (List.mem_cons_self ..) (by simpa using Paired.nil)
    (fun _ _ _ _ g => g) (fits (by omega)) [] (fun p hp => by cases hp) (fun _ => rfl) .nil (fun C => canL (List.mem_cons_self ..)) ?_ ?_
  · rintro C D' i B₂₇ m₂ ys h₅₄ tk₄₄ E' hi _ le27 g' ⟨y, hy, rfl⟩ G
    obtain ⟨x, hx1, tx, rfl⟩ := pGet' gR hy
    refine tests_one (wpAny_isTrue_Compare1 ?_)
    walk_at "N"
    refine cI fun _ tk₄₅ => PyProof.Rows.ne_int (wpAny_truthy_bool ?_)
    by_cases hx0 : x = 0
    · rw [if_neg (by rw [hx0]; decide)]
      refine ⟨B₂₇, _, h₅₄, _, rfl, .rfl, ?_, mc_upd rfl, G⟩
      rw [List.take_add_one, hx1, List.filter_append]
      show Paired _ (_ ++ List.filter _ [x]) _
      rw [List.filter_cons_of_neg (by simpa using hx0), List.filter_nil, List.append_nil]
      exact g'
    · rw [if_pos (by rw [bne_iff_ne]; exact hx0)]
      walk_at "N"
      refine ⟨B₂₇, _, h₅₄, _, rfl, .rfl, ?_, mc_upd rfl, G⟩
      rw [List.take_add_one, hx1, List.filter_append]
      show Paired _ (_ ++ List.filter _ [x]) _
      rw [List.filter_cons_of_pos (by simpa using hx0), List.filter_nil]
      exact pAppend g' (.cons ⟨tx, rfl⟩ .nil)
  intro C₁₀ D₁₀ B₂₇ c₁₀ ys h₅₄ tk₄₄ hC₁₀ le27 g' _ eD₁₀ G
  rw [List.take_of_length_le (by omega)] at g'
  refine comp_none G (List.mem_cons_self ..) (fun x c hc q => hC₁₀.2 x c hc (List.mem_singleton.mpr q)) (hC₁₀.1 _ (List.mem_singleton.mpr rfl)) fun h₅₅ K₁₅ => List_ (args_nil ?_)
  refine mkLstB K₁₅ fun B₂₈ h₅₆ l₂₈ le28 e₂₈ K₁₆ => ?_
  refine eqInts (ms := []) (B := B₂₈) (pln_of K₁₆.sub (le28 _ _ eD₁₀)) (pln_of K₁₆.sub e₂₈) g' .nil ((R.deeper _).le (by omega)) (ne_bool (wpAny_truthy_bool ?_))
  rw [if_neg (by
    have h1 := hmost hd0
    have h2 : (∀ x ∈ rights cs aim, x = 0) ↔ (rights cs aim).filter (fun x => decide (x ≠ 0)) = [] := by
      rw [List.filter_eq_nil_iff]
      simp
    rw [h2] at h1
    rw [bne_iff_ne, ne_eq, Classical.not_not, Bool.eq_iff_iff, beq_iff_eq, decide_eq_true_eq]
    exact h1), if_neg (by decide)]
  refine isTrue_or_nil ?_
  rw [if_neg (by decide)]
  have leI := leH.trans (le27.trans le28)
  refine wpAny_execs_nil (wpAny_execs_cons (wpAny_Return_some (Tuple_ (args_cons ?_))))
  walk_at "N"
  refine args_cons ?_
  walk_at "N"
  refine args_cons ?_
  walk_at "N"
  refine args_nil (mkTup K₁₆ fun B₄₀ h₄₀' t₄₀ le40 et₄₀ Z => ?_)
  exact hq B₄₀ h₄₀' _ t₄₀ lr tmany tt Z.toExt et₄₀ (IntsV.mono _ _ _ _ (leI.trans le40) hleftF)
end
abbrev Fm.like {W : List Addr} {B₀ B : Base} {h₀ h : Heap} {own : List Addr} {env : Env} {m : Str → Option Value} {ps : List Ent} (_ : Fm W B₀ h₀ own env B m ps h) (B' : Base) (m' : Str → Option Value) (ps' : List Ent) (h' : Heap) : Prop := Fm W B₀ h₀ own env B' m' ps' h'
def EndOk (cs ds : List (List Int)) (aim : List Int) : Prop :=
  prodDen (qsol ds aim) * prodDen (qsol ds aim) * dot (leftOf cs aim) (leftOf cs aim) ≤ prodDen (qsol cs aim) * prodDen (qsol cs aim) * dot (leftOf ds aim) (leftOf ds aim) ∧
  ((leftOf ds aim).map (fun x => prodDen (qsol cs aim) * x) = (leftOf cs aim).map (fun x => prodDen (qsol ds aim) * x) ∨ rankOf ds 4 < rankOf cs 4)
/-- the plain law: what is left to prove -/
def Plain : Prop := ∀ c0 c1 c2 aim : List Int, c0.length = 4 → c1.length = 4 → c2.length = 4 → aim.length = 4 → (∀ x ∈ c0, Sm 3 x) → (∀ x ∈ c1, Sm 3 x) → (∀ x ∈ c2, Sm 3 x) → (∀ x ∈ aim, Sm 3 x) →
  Fine 3 [c0, c1, c2] aim ∧ Fine 2 [c0, c2] aim ∧ EndOk [c0, c1, c2] [c0, c2] aim
theorem fine_sm {n : Nat} {cs : List (List Int)} {aim : List Int} (X : Fine n cs aim) : (∀ x ∈ leftOf cs aim, Sm 40000 x) ∧ (leftOf cs aim).length = 4 ∧ Sm 20000 (prodDen (qsol cs aim)) := by
  have lcs := X.len
  have hn1 := X.pos
  have hn3 := X.le
  have hsq := prods_sq cs
  rw [lcs] at hsq
  have hpsm : SmM 10 (prods cs) := prods_sm X.sm X.rows
  have hrsm : ∀ x ∈ rights cs aim, Sm 10 x := fun x hx => by
    obtain ⟨c, hc, rfl⟩ := List.mem_map.mp hx
    exact dot_sm (X.sm c hc) X.sma (by rw [X.rows c hc]; exact Nat.le_refl _)
  have lrr : (rights cs aim).length = n := by simp [rights, lcs]
  have hqR : Rect n n (qmat (prods cs)) := qmat_rect hsq.1 hsq.2
  have hqw : wd (qmat (prods cs)) = n := wd_rect hqR hn1
  have hqB : Bnd 10 (qmat (prods cs)) := qmat_B hpsm (by decide)
  have hrl : (qrow (rights cs aim)).length = n := by rw [qrow, List.length_map]; exact lrr
  have haR := aug_rect hqR hrl
  have haB := aug_bnd hqB (qrow_B hrsm (by decide))
  have haw : wd (aug (qmat (prods cs)) (qrow (rights cs aim))) = n + 1 := wd_rect haR hn1
  have h5 : (5 : Nat) ^ (n + 1) ≤ 5 ^ 4 := Nat.pow_le_pow_right (by decide) (by omega)
  have e54 : (5 : Nat) ^ 4 = 625 := by decide
  have hqsl : (qsol cs aim).length = n := by rw [qsol, sol_len, hqw]
  have hqsB : ∀ x ∈ qsol cs aim, RatB 6250 x := fun x hx => (sol_B haR haw haB (by decide) x hx).le (by omega)
  have sm8 : SmM 8 cs := fun r hr x hx => (X.sm r hr x hx).le (by decide)
  have sma8 : ∀ x ∈ aim, Sm 8 x := fun x hx => (X.sma x hx).le (by decide)
  exact ⟨fun x hx => (restTo_sm (K := 6250) (b := 8) (by decide) hqsB sm8 sma8 _ x hx).le (by omega), restTo_len X.rows X.alen _ (Nat.le_refl _), (prodDen_sm hqsB).le (by omega)⟩
/-- a number of the draws, less 2 -/
def Drawn4 (r : List Int) : Prop := r.length = 4 ∧ ∀ x ∈ r, -2 ≤ x ∧ x ≤ 2
section
variable {prog : Program} {w : World} {A : Around} {E : Value → Shared → Prop} {s : Shared} {h : Heap} {tk : Nat} {B : Base} {Q : Value → Shared → Prop}

/-- «a[:n]» -/
theorem sliceLI {env : Env} {value : Expr} {upper : Expr} {p pos : Pos} {Q : Value → Shared → Prop} 
    (hq : wpAny (model prog w) A (eval value env) (fun o s₁ => wpAny (model prog w) A (eval upper env) (fun vu s₂ => ∃ l items n t h tk, s₂ = mk s h tk ∧ o = .ref l ∧ vu = .int (n : Nat) t ∧ h.IsList l (items : List Value).toArray ∧ items.length ≤ 1000 ∧
      ∃ (W : List Addr) (B₀ : Base) (h₀ : Heap) (own : List Addr) (B : Base) (ps : List Ent) (m : Str → Option Value), Fm W B₀ h₀ own env B m ps h ∧ ∀ B' h' D c, B.le B' → B' D = some (lstO (items.take n) c) → Fm W B₀ h₀ own env B' m ps h' → Q (.ref D) (mk s h' tk)) E s₁) E (mk s h tk))
    (ht : ∀ o r, letTemporaryGo value o r = pure () := by intro _ _; rfl) :
    wpAny (model prog w) A (eval (.Subscript value (.Slice none (some upper) none p) pos) env) Q E (mk s h tk) := by
  refine wpAny_Subscript_list_slice (wpAny_mono hq (fun o s₁ h₁ => evalPart_none_step (wpAny_mono h₁ (fun vu s₂ h₂ => ?_) fun _ _ e => e)) fun _ _ e => e) ht
  obtain ⟨l, items, n, t, h, tk, rfl, rfl, rfl, hl, hz, W, B₀, h₀, own, B, ps, m, S, hq⟩ := h₂
  refine ⟨l, items.toArray, none, some (n : Int), rfl, hl, by rw [List.size_toArray]; exact fits hz, .none, .int _ _, ?_⟩
  rw [slicePick_upto']
  have k1 : ∀ b o, h.get? b = some o → (h.push { cls := .type "slice", data := .fields #[.none, .int (n : Int) t, .none] }).get? b = some o := fun b o e => Heap.get?_push_of_some _ e
  have S1 := S.ext (Ext.keeps S.sub k1)
  have k2 : ∀ b o, (h.push { cls := .type "slice", data := .fields #[.none, .int (n : Int) t, .none] }).get? b = some o → ((h.push { cls := .type "slice", data := .fields #[.none, .int (n : Int) t, .none] }).push (lstO (items.take n) 0)).get? b = some o := fun b o e => Heap.get?_push_of_some _ e
  obtain ⟨B', X, e⟩ := Ext.alloc (o := lstO (items.take n) 0) S1.sub newAt k2 (Heap.get?_push_size _ rfl)
  rw [Heap.size_push] at e
  exact hq B' _ _ 0 X.le e (S1.ext X)

theorem draw_fm {W : List Addr} {B₀ : Base} {h₀ : Heap} {env : Env} {mp : Str → Option Value} {ps₁ ps₂ : List Ent} {P lc : Addr} {cs : List Value} {ns : List Int} {c k : Nat} {m : Int} {t u : Tok} (S : Fm W B₀ h₀ (ownOf env) env B mp (ps₁ ++ (P, LstP [.ref lc, .int (k : Nat) t]) :: ps₂) h)
    (T : Tp (Mine.hd.heap_39 w.params) B) (R : Room 1 A) (hlc : B lc = some (lstO cs c)) (hp : Paired (IntV B) ns cs) (hn : cs.length ≤ 1000) (hk : k ≤ 1000) (hm : 0 < m)
    (hq : ∀ B' h' tk' d td t', B.le B' → Fm W B₀ h₀ (ownOf env) env B' mp (ps₁ ++ (P, LstP [.ref lc, .int (k + 1 : Nat) t']) :: ps₂) h' → 0 ≤ d → d < m → Q (.int d td) (mk s h' tk')) :
    wpAny (model prog w) A (call (.ref 169) [.ref P, .int m u]) Q E (mk s h tk) :=
  draw_ok T S.sub R (S.ents _ (List.mem_append_right _ (List.mem_cons_self ..))) (S.apart P (by simp)) hlc hp hn hk hm fun B' h' tk' d td t' X e h0 h1 => hq B' h' tk' d td t' X.le (S.extW1 ps₁ X e) h0 h1

set_option maxHeartbeats 4000000 in
theorem law_ok (T : Tp (Mine.hd.heap_39 w.params) B) (sub : B.In h) (R : Room 10 A) {l : Addr} {vs : List Value} {ns : List Int} {c : Nat} (hl : ∃ o, B l = some o ∧ o.cls = .type "list" ∧ o.data = .seq vs.toArray c) (hp : Paired (IntV B) ns vs) (hn : ns.length ≤ 63) (plain : Plain)
    (hq : ∀ B' h' tk', Ext B h B' h' → Q (.bool true) (mk s h' tk')) :
    wpAny (model prog w) A (call (.ref 194) [.ref l]) Q E (mk s h tk) := by
  have len := pLen hp
  obtain ⟨oS, hlS, hcS, hdS⟩ := hl
  refine' enter (binds := [("script", .ref l)]) [] T sub ?he .nil ?hB ?hf ?hcd ?hroom ?hbind ?hkind ?hh ?hcn ?hco ?hgen ?hk
  walk_at "no things"
  walk_at "call the def"
  intro L h₁ tk₁ hL S
  refine wpAny_execs_cons (wpAny_Assign_Name (List_ (args_cons ?_)))
  refine' comp_start [] ?hcl2 ?hk2 ?hn2 ?hg2 ?hs2
  case hcl2 => rfl
  case hk2 => rfl
  case hn2 => decide
  case hs2 => exact fun _ => rfl
  refine sliceLI ?_
  walk_at "N"
  refine cI fun t₁ tk₂ => ?_
  refine ⟨l, vs, 18, t₁, h₁, _, rfl, rfl, rfl, ⟨oS, S.sub _ _ hlS, hcS, c, hdS⟩, by omega, _, _, _, _, B, _, _, S, fun B₁ h₂ D₁ c₁ le₁ e₁ S₁ => ?_⟩
  refine iterL "cell" R.quiet S₁ e₁ fun h₃ I IT hN st S₂ => ?_
  have hpt := pTake 18 hp
  have T₁ := T.le S₁.mono
  have lt18 : (vs.take 18).length ≤ 18 := by rw [List.length_take]; omega
  refine comp_pure (ps := []) (fun i B₁ ys => Paired (IntV B₁) ((ns.take 18).take i) ys) (IT _) hN st S₂ (List.mem_cons_self ..) (by simpa using Paired.nil)
    (fun _ _ _ _ g => g) (fits (by omega)) [] (fun p hp => by cases hp) (fun _ => rfl) .nil (fun C => canL (List.mem_cons_self ..)) ?_ ?_
  · rintro C D i B₂ m₂ ys h₄ tk₃ E' hi _ le g ⟨y, hy, rfl⟩ F
    refine tests_nil ?_
    rw [if_pos rfl]
    obtain ⟨x, hx1, tx, rfl⟩ := pGet' hpt hy
    refine Call_ ?_
    walk_at "N"
    refine cType (args_cons ?_)
    walk_at "N"
    refine args_nil (call_int_int ?_)
    exact ⟨B₂, _, h₄, _, rfl, .rfl, pSnocTake g hx1 ⟨tx, rfl⟩, mc_upd rfl, F⟩
  intro C₂ D₂ B₂ c₂ cs h₄ tk₃ hC₂ le₂ g hcs eD F
  refine comp_none F (List.mem_cons_self ..) (fun x c hc q => hC₂.2 x c hc (List.mem_singleton.mpr q)) (hC₂.1 _ (List.mem_singleton.mpr rfl)) fun h₅ F₁ => ?_
  refine args_cons (cI fun t₂ tk₄ => args_nil (mkLst F₁ fun h₆ P hnP F₂ => ?_))
  walk_at "storeName"
  intro h₇ tk₅ F₃
  have F₃ : Fm [] B h _ _ B₂ _ [(P, LstP [.ref D₂, .int (0 : Nat) t₂])] h₇ := F₃
  have T₂ := T.le F₃.mono
  have hcs' : cs.length ≤ 1000 := by omega
  refine wpAny_execs_cons (Assign_Tuple (Tuple_ (args_cons (Call_ ?_))))
  walk_at "N"
  refine callF T₂ (by k_dflt k_is) (args_cons ?_)
  walk_at "N"
  refine args_cons (cI fun t₃ tk₆ => args_nil ⟨F₃.sub, ?_⟩)
  refine draw_ok (k := 0) T₂ F₃.sub ((R.deeper _).le (by omega)) (F₃.ents _ (List.mem_cons_self ..)) (F₃.apart P (by simp)) eD g hcs' (by decide) (by decide) fun B₃ h₈ tk₇ form tf t₄ X₁ e₂ hf0 hf3 => ?_
  have F₄ := F₃.extW1 [] X₁ e₂
  refine args_cons (List_ (args_nil (mkLst F₄ fun h₉ C hnC F₅ => args_nil ?_)))
  refine mkTup F₅ fun B₄ h₁₀ tt le₄ et F₆ => ?_
  refine asgT R.quiet F₆ et rfl rfl fun h₁₁ F₇ => ?_
  refine assignInOrder_cons (wpAny_assign_Name ?_)
  walk_at "storeName"
  intro h₁₂ tk₈ F₈
  refine assignInOrder_cons (wpAny_assign_Name ?_)
  walk_at "storeName"
  intro h₁₃ tk₉ F₉
  have T₄ := T.le F₉.mono
  have eD4 := le₄ _ _ (X₁.le _ _ eD)
  refine assignInOrder_nil (wpAny_execs_cons (wpAny_Assign_Name (wpAny_BinOp (Call_ ?_))))
  walk_at "N"
  refine callF T₄ (by k_dflt k_is) (args_cons ?_)
  walk_at "N"
  refine args_cons (cI fun t₅ tk₁₀ => args_nil ⟨F₉.sub, ?_⟩)
  refine draw_ok (k := 1) T₄ F₉.sub ((R.deeper _).le (by omega)) (F₉.ents _ (List.mem_cons_of_mem _ (List.mem_cons_self ..))) (F₉.apart P (by simp)) eD4 g hcs' (by decide) (by decide) fun B₅ h₁₄ tk₁₁ m0 tm t₆ X₂ e₃ hm0 hm4 => ?_
  have F₁₀ := F₉.extW1 [(C, LstP [])] X₂ e₃
  refine cI fun _ tk₁₂ => subI fun t₇ tk₁₃ => ?_
  walk_at "storeName"
  intro h₁₅ tk₁₄ F₁₁
  have eD5 := X₂.le _ _ eD4
  refine wpAny_execs_cons (wpAny_For (Call_ ?_))
  walk_at "N"
  refine cType (args_cons (cI fun _ tk₁₅ => args_nil ?_))
  refine mkRange1 F₁₁ fun B₆ h₁₆ r₆ ta tb tc tk₁₆ le₆ er F₁₂ => ?_
  refine iterR "turn" R.quiet F₁₂ er (by decide) (by decide) (by decide) (by decide) fun h₁₇ It IT₂ hN₂ st₂ F₁₃ => ?_
  have eD6 := le₆ _ _ eD5
  have F₁₄ := F₁₃.forget (m' := mL [("pool", .ref P), ("form", .int form tf), ("columns", .ref C), ("many", .int (m0 - 1) t₇)]) (mL_forget (by walk_at "known"))
  rw [show ((3 : Int) - 0).toNat = 3 from rfl] at IT₂
  refine forLoop (fun i B m ps => ∃ t rows rvs, m = mL [("pool", .ref P), ("form", .int form tf), ("columns", .ref C), ("many", .int (m0 - 1) t₇)] ∧ ps = [(C, LstP rvs)] ++ (P, LstP [.ref D₂, .int (2 + 4 * i : Nat) t]) :: [] ∧ Paired (IntsV B) rows rvs ∧ rows.length = i ∧ ∀ r ∈ rows, Drawn4 r)
    (IT₂ _) (canL (List.mem_cons_self ..)) hN₂ (List.mem_cons_self ..) F₁₄ st₂ ⟨t₆, [], [], rfl, rfl, .nil, rfl, fun r hr => by cases hr⟩ ?_ ?_
  · rintro i B₇ m₁ m₂ ps₁ h₁₈ tk₁₇ E' hi le7 ⟨t, rows, rvs, rfl, rfl, hrv, hrl, hrd⟩ ⟨_, ⟨tr, rfl⟩, rfl⟩ N
    have lrvs := pLen hrv
    have N0 : Fm [] B h _ _ B₇ _ ([(C, LstP rvs)] ++ (P, LstP [.ref D₂, .int (2 + 4 * i + 0 : Nat) t]) :: Hold h₁₈ [It]) h₁₈ := N
    refine wpAny_execs_cons (Assign_Tuple_swapped (names := ["first", "second"]) (Tuple_ (args_cons (wpAny_BinOp (Call_ ?_)))))
    walk_at "N"
    have TT1 := T.le N0.mono
    refine callF TT1 (by k_dflt k_is) (args_cons ?_)
    walk_at "N"
    refine args_cons (cI fun _ _ => args_nil ⟨N0.sub, ?_⟩)
    refine draw_fm (ps₁ := [(C, LstP rvs)]) (ps₂ := Hold h₁₈ [It]) N0 TT1 ((R.deeper _).le (by omega)) (le7 _ _ eD6) g hcs' (k := 2 + 4 * i + 0) (by omega) (by decide) fun B1a hh1a tka1 da td1 tt1 le1a N0a da0 da5 => ?_
    refine cI fun _ _ => subI fun _ _ => args_cons (wpAny_BinOp (Call_ ?_))
    walk_at "N"
    have TT1b := T.le N0a.mono
    refine callF TT1b (by k_dflt k_is) (args_cons ?_)
    walk_at "N"
    refine args_cons (cI fun _ _ => args_nil ⟨N0a.sub, ?_⟩)
    refine draw_fm (ps₁ := [(C, LstP rvs)]) (ps₂ := Hold h₁₈ [It]) N0a TT1b ((R.deeper _).le (by omega)) (le1a _ _ (le7 _ _ eD6)) g hcs' (k := 2 + 4 * i + 0 + 1) (by omega) (by decide) fun B1b hh1b tkb1 db td1b tt1b le1b N0b db0 db5 => ?_
    refine cI fun _ _ => subI fun _ _ => args_nil ?_
    refine mkTup N0b fun B1c hh1c tt1c le1c et1 N0c => ?_
    refine unpk R.quiet N0c et1 rfl fun hh1d N0d => ?_
    refine assignInOrder_cons (wpAny_bindName ?_)
    walk_at "storeName"
    intro hh1e tke1 N0e
    refine assignInOrder_cons (wpAny_bindName ?_)
    walk_at "storeName"
    intro hh1f tkf1 N0f
    refine assignInOrder_nil ?_
    have le71 : B₇.le B1c := le1a.trans (le1b.trans le1c)
    refine wpAny_execs_cons (Assign_Tuple_swapped (names := ["third", "fourth"]) (Tuple_ (args_cons (wpAny_BinOp (Call_ ?_)))))
    walk_at "N"
    have TT2 := T.le N0f.mono
    refine callF TT2 (by k_dflt k_is) (args_cons ?_)
    walk_at "N"
    refine args_cons (cI fun _ _ => args_nil ⟨N0f.sub, ?_⟩)
    refine draw_fm (ps₁ := [(C, LstP rvs)]) (ps₂ := Hold h₁₈ [It]) N0f TT2 ((R.deeper _).le (by omega)) ((le7.trans le71) _ _ eD6) g hcs' (k := 2 + 4 * i + 2) (by omega) (by decide) fun B2a hh2a tka2 dc td2 tt2 le2a N0fa dc0 dc5 => ?_
    refine cI fun _ _ => subI fun _ _ => args_cons (wpAny_BinOp (Call_ ?_))
    walk_at "N"
    have TT2b := T.le N0fa.mono
    refine callF TT2b (by k_dflt k_is) (args_cons ?_)
    walk_at "N"
    refine args_cons (cI fun _ _ => args_nil ⟨N0fa.sub, ?_⟩)
    refine draw_fm (ps₁ := [(C, LstP rvs)]) (ps₂ := Hold h₁₈ [It]) N0fa TT2b ((R.deeper _).le (by omega)) (le2a _ _ ((le7.trans le71) _ _ eD6)) g hcs' (k := 2 + 4 * i + 2 + 1) (by omega) (by decide) fun B2b hh2b tkb2 dd td2b tt2b le2b N0fb dd0 dd5 => ?_
    refine cI fun _ _ => subI fun _ _ => args_nil ?_
    refine mkTup N0fb fun B2c hh2c tt2c le2c et2 N0fc => ?_
    refine unpk R.quiet N0fc et2 rfl fun hh2d N0fd => ?_
    refine assignInOrder_cons (wpAny_bindName ?_)
    walk_at "storeName"
    intro hh2e tke2 N0fe
    refine assignInOrder_cons (wpAny_bindName ?_)
    walk_at "storeName"
    intro hh2f tkf2 N0ff
    refine assignInOrder_nil ?_
    have le72 : B1c.le B2c := le2a.trans (le2b.trans le2c)
    refine wpAny_execs_cons (wpAny_Expr (MethodCall_ ?_))
    walk_at "N"
    refine getApp (N0ff.plain (a := C) (vs := rvs) (by simp)) (callWith_method1 (args_cons (List_ (args_cons ?_))))
    walk_at "N"
    refine args_cons ?_
    walk_at "N"
    refine args_cons ?_
    walk_at "N"
    refine args_cons ?_
    walk_at "N"
    refine args_nil (mkLstB N0ff fun B₈ h₁₉ l₈ le8 e₈ N₁ => args_nil (appP [] (ps₂ := (P, LstP [.ref D₂, .int (2 + 4 * i + 2 + 1 + 1 : Nat) tt2b]) :: Hold h₁₈ [It]) N₁ (fits (by omega)) fun h₂₀ N₂ => wpAny_execs_nil ?_))
    refine ⟨B₈, _, [(C, LstP (rvs ++ [.ref l₈]))] ++ (P, LstP [.ref D₂, .int (2 + 4 * (i + 1) : Nat) tt2b]) :: [], h₂₀, _, rfl, le71.trans (le72.trans le8), ⟨tt2b, rows ++ [[da - 2, db - 2, dc - 2, dd - 2]], _, rfl, rfl, ?_, by simp [hrl], ?_⟩, N₂.forget (mL_forget (by walk_at "known"))⟩
    · exact pAppend (pMono IntsV.mono (le71.trans (le72.trans le8)) hrv) (.cons ⟨_, _, _, rfl, e₈, .cons ⟨_, rfl⟩ (.cons ⟨_, rfl⟩ (.cons ⟨_, rfl⟩ (.cons ⟨_, rfl⟩ .nil)))⟩ .nil)
    · intro r hr
      rcases List.mem_append.mp hr with q | q
      · exact hrd r q
      · rw [List.mem_singleton.mp q]
        refine ⟨rfl, fun x hx => ?_⟩
        simp only [List.mem_cons, List.not_mem_nil, or_false] at hx
        rcases hx with rfl | rfl | rfl | rfl <;> omega
  rintro B₇ m₁ ps₁ h₁₈ tk₁₇ le7 ⟨t, rows, rvs, rfl, rfl, hrv, hrl, hrd⟩ N
  have lrvs := pLen hrv
  have T₇ := T.le N.mono
  have eD7 := le7 _ _ eD6
  have nPc : P ≠ L + 1 := fun q => (List.nodup_append.mp N.nodup).2.2 (L + 1) (own_cells "pool" (L + 1) (mem_of_lookup (by rfl))) P (by simp) q.symm
  refine wpAny_execs_cons ?_
  refine' comp_assign [("pool", L + 1)] ?hsw3 ?hcl3 ?hk3 ?hn3 ?hg3 ?hs3
  case hk3 => rfl
  case hn3 => decide
  case hcl3 => rfl
  case hs3 => exact fun _ => rfl
  case hsw3 => rfl
  refine Call_ ?_
  walk_at "N"
  refine cType (args_cons (cI fun _ tk₁₈ => args_nil ?_))
  refine mkRange1 N fun B₈ h₁₉ r₈ ta8 tb8 tc8 tk₁₉ le8 er8 N₁ => ?_
  refine iterR "at" R.quiet N₁ er8 (by decide) (by decide) (by decide) (by decide) fun h₂₀ I₃ IT₃ hN₃ st₃ N₂ => ?_
  rw [show ((4 : Int) - 0).toNat = 4 from rfl] at IT₃
  have N₃ := N₂.perm (ps' := ([(P, LstP [.ref D₂, .int (2 + 4 * 3 : Nat) t])] ++ [(C, LstP rvs)]) ++ Hold h₂₀ [I₃]) (by
    refine List.Perm.append_right _ ?_
    exact List.Perm.swap ..)
  have T₈ := T.le N₃.mono
  have eD8 := le8 _ _ eD7
  refine comp_go (psW := [(P, LstP [.ref D₂, .int (2 + 4 * 3 : Nat) t])]) (psR := [(C, LstP rvs)]) (fun i B psN psW ys => psN = [] ∧ ∃ t xs, psW = [(P, LstP [.ref D₂, .int (14 + i : Nat) t])] ∧ Paired (IntV B) xs ys ∧ xs.length = i ∧ ∀ x ∈ xs, -2 ≤ x ∧ x ≤ 2)
    (IT₃ _) hN₃ (List.mem_cons_self ..) (fun x c hm q => (List.nodup_append.mp N.nodup).2.2 c (own_cells x c hm) P (by simp) (by simpa using q)) N₃ st₃ ⟨rfl, t, [], rfl, .nil, rfl, fun x hx => by cases hx⟩ (fits (by decide))
    ["pool"] (by walk_at "cells known") (fun _ => rfl) (by decide +kernel) (fun C => canL (List.mem_cons_self ..)) ?_ ?_
  · rintro Cc D i B₉ m₂ psN psW₁ ys h₂₁ tk₂₀ E' _ _ hi _ le9 _ ⟨rfl, t9, xs, rfl, hxs, hxl, hxb⟩ ⟨_, ⟨ti, rfl⟩, rfl⟩ F
    refine tests_nil ?_
    rw [if_pos rfl]
    refine wpAny_BinOp (Call_ ?_)
    walk_at "N"
    refine callF T₈ (by k_dflt k_is) (args_cons ?_)
    walk_at "N"
    refine args_cons (cI fun _ tk₂₁ => args_nil ⟨F.sub.of_le le9, ?_⟩)
    refine draw_ok (k := 14 + i) (T₈.le le9) F.sub ((R.deeper _).le (by omega)) (F.ents (P, LstP [.ref D₂, .int (14 + i : Nat) t9]) (List.mem_append_left _ (List.mem_append_left _ (List.mem_append_right _ (List.mem_singleton.mpr rfl))))) (F.apart P (by simp)) (le9 _ _ eD8) g hcs' (by omega) (by decide) fun B₁₀ h₂₂ tk₂₂ d td t10 X e10 hd0 hd5 => ?_
    have nd := F.nodup
    have nO : ∀ a ∈ cownOf _ Cc, a ∉ [P] := fun a ha q => (List.nodup_append.mp nd).2.2 a ha P (by simp) (List.mem_singleton.mp q)
    have F₁ := F.extW (ps' := ([] ++ [(P, LstP [.ref D₂, .int (14 + i + 1 : Nat) t10])] ++ [(D, LstP ys)]) ++ Hold h₂₁ [I₃]) X (nO _ (List.mem_cons_self ..))
      (fun y c hm q => by
        have hm : (y, c) ∈ [(("pool" : Str), L + 1)] := hm
        rw [List.mem_singleton] at hm q
        cases hm
        exact nPc q.symm) nO (fun a ha => by rw [List.mem_singleton.mp ha]; simp) (by simp) (fun p hp => by
        rcases List.mem_append.mp hp with z | z
        · rcases List.mem_append.mp z with z | z
          · have z : p = (P, LstP [.ref D₂, .int (14 + i + 1 : Nat) t10]) := by simpa using z
            rw [z]; exact e10
          · rw [List.mem_singleton.mp z]
            obtain ⟨o, eo, po⟩ := F.ents (D, LstP ys) (by simp)
            refine ⟨o, X.keep _ _ (fun q => ?_) eo, po⟩
            have := (List.nodup_append.mp nd).2.1
            simp at this q
            exact this.1.1 q.symm
        · obtain ⟨o, eo, po⟩ := F.ents p (List.mem_append_right _ z)
          refine ⟨o, X.keep _ _ (fun q => ?_) eo, po⟩
          have h2 := (List.nodup_append.mp nd).2.1
          rw [List.map_append] at h2
          exact (List.nodup_append.mp h2).2.2 P (by simp) p.1 (List.mem_map_of_mem (f := fun p : Ent => p.1) z) (List.mem_singleton.mp q).symm)
    refine cI fun _ tk₂₃ => subI fun t11 tk₂₄ => ?_
    exact ⟨B₁₀, _, [], [(P, LstP [.ref D₂, .int (14 + i + 1 : Nat) t10])], h₂₂, _, rfl, X.le, rfl, ⟨rfl, t10, xs ++ [d - 2], rfl, pAppend hxs (.cons ⟨_, rfl⟩ .nil), by simp [hxl], fun x hx => by
      rcases List.mem_append.mp hx with q | q
      · exact hxb x q
      · rw [List.mem_singleton.mp q]; omega⟩, mc_upd rfl, F₁⟩
  rintro Cc D B₉ psN psW₂ ys h₂₁ tk₂₀ hD hCc le9 _ ⟨rfl, t9, aim, rfl, haim, haiml, haimb⟩ _ F
  have nC := N₃.newW (wr := [Cc]) fun a ha => by rw [List.mem_singleton.mp ha]; exact none_ge hCc
  refine comp_some' "aim" F (List.mem_cons_self ..) (fun x c hc q => nC.2 x c hc (List.mem_singleton.mpr q)) (nC.1 _ (List.mem_singleton.mpr rfl)) (canL (List.mem_cons_self ..)) fun h₂₂ tk₂₁ F₁ => ?_
  obtain ⟨B₁₀, le10, ⟨oA, eA, cA, rfl⟩, F₂⟩ := Fm.freeze (ps := [(P, LstP [.ref D₂, .int (14 + 4 : Nat) t9]), (C, LstP rvs)]) F₁ (by simp)
  have haimV : IntsV B₁₀ aim (.ref D) := ⟨_, _, _, rfl, eA, haim⟩
  have hrv10 := pMono IntsV.mono (le8.trans (le9.trans le10)) hrv
  have F₃ := (F₂.drop (ps' := [(C, LstP rvs)]) (by simp)).forget (m' := mL [("form", .int form tf), ("columns", .ref C), ("many", .int (m0 - 1) t₇), ("aim", .ref D)]) (mL_forget (by walk_at "known"))
  obtain ⟨r0, r1, r2, rfl⟩ : ∃ a b c, rows = [a, b, c] := by
    match rows, hrl with
    | [a, b, c], _ => exact ⟨a, b, c, rfl⟩
  have hr0 := hrd r0 (by simp)
  have hr1 := hrd r1 (by simp)
  have hr2 := hrd r2 (by simp)
  have sm2 : ∀ {x : Int}, -2 ≤ x ∧ x ≤ 2 → Sm 2 x := fun {x} hx => by unfold Sm; omega
  have sm3 : ∀ {x : Int}, -4 ≤ x → x ≤ 4 → Sm 3 x := fun {x} h1 h2 => by unfold Sm; omega
  cases hrv10 with
  | cons hv0 hrest =>
  rename_i v0 rvs1
  cases hrest with
  | cons hv1 hrest =>
  rename_i v1 rvs2
  cases hrest with
  | cons hv2 hrest =>
  rename_i v2 rvs3
  cases hrest
  have hv0' := hv0
  obtain ⟨l0, w0, cw0, rfl, hl0, hp0⟩ := hv0
  have lw0 : w0.length = 4 := by rw [pLen hp0]; exact hr0.1
  refine wpAny_execs_cons (wpAny_mono (Q := fun f s' => f = .next ∧ ∃ B' h' tk' x1 v1', s' = mk s h' tk' ∧ B₁₀.le B' ∧ F₃.like B' (mL [("form", .int form tf), ("columns", .ref C), ("many", .int (m0 - 1) t₇), ("aim", .ref D)]) [(C, LstP [.ref l0, v1', v2])] h' ∧
    IntsV B' x1 v1' ∧ x1.length = 4 ∧ (∀ x ∈ x1, Sm 3 x) ∧ (form ≠ 0 → x1 = r1)) (E := fun _ _ => False) ?_ ?_ fun _ _ e => e)
  · refine wpAny_If (wpAny_isTrue_Compare1 ?_)
    walk_at "N"
    refine cI fun _ tk₂₂ => PyProof.Rows.eq_int (wpAny_truthy_bool ?_)
    by_cases hf : form = 0
    · rw [if_pos (by rw [hf]; rfl)]
      refine wpAny_execs_cons (wpAny_Assign_Subscript ?_)
      refine' comp_start [("many", L + 1 + 1 + 1)] ?hcl4 ?hk4 ?hn4 ?hg4 ?hs4
      case hcl4 => rfl
      case hk4 => rfl
      case hn4 => decide
      case hs4 => exact fun _ => rfl
      refine Subscript_ ?_
      walk_at "N"
      refine cI fun _ tk₂₃ => itemL (F₃.plain (a := C) (List.mem_singleton.mpr rfl)) (by decide) (by decide) rfl ?_
      refine iterL "number" R.quiet F₃ hl0 fun h₂₃ I₄ IT₄ hN₄ st₄ F₄ => ?_
      refine comp_pure (fun i B₁ ys => Paired (IntV B₁) ((r0.map fun x => (m0 - 1) * x).take i) ys) (IT₄ _) hN₄ st₄ F₄ (List.mem_cons_self ..) (by simpa using Paired.nil)
        (fun _ _ _ _ g => g) (fits (by omega)) ["many"] (by walk_at "cells known") (fun _ => rfl) (by decide +kernel) (fun C => canL (List.mem_cons_self ..)) ?_ ?_
      · rintro Cc D' i B₁₁ m₂ ys h₂₄ tk₂₄ E' hi _ le11 g' ⟨y, hy, rfl⟩ G
        refine tests_nil ?_
        rw [if_pos rfl]
        obtain ⟨x, hx1, tx, rfl⟩ := pGet' hp0 hy
        refine wpAny_BinOp ?_
        walk_at "N"
        walk_at "N"
        refine mulI (k := 2) (sm2 (by omega)) (sm2 (hr0.2 x (List.mem_of_getElem? hx1))) (by decide) (by decide) fun _ tk₂₅ => ?_
        exact ⟨B₁₁, _, h₂₄, _, rfl, .rfl, pSnocTake g' (by rw [List.getElem?_map, hx1]; rfl) ⟨_, rfl⟩, mc_upd rfl, G⟩
      intro Cc D' B₁₁ c₁₁ ys h₂₄ tk₂₄ hC11 le11 g' _ eD' G
      refine comp_none G (List.mem_cons_self ..) (fun x c hc q => hC11.2 x c hc (List.mem_singleton.mpr q)) (hC11.1 _ (List.mem_singleton.mpr rfl)) fun h₂₅ G₁ => ?_
      walk_at "N"
      refine cI fun _ tk₂₆ => setP [] G₁ (by decide) (by decide) (by show (1 : Nat) < 3; decide) fun h₂₆ G₂ => wpAny_execs_nil ?_
      refine ⟨rfl, B₁₁, h₂₆, _, r0.map fun x => (m0 - 1) * x, .ref D', rfl, le11, G₂, ⟨_, _, _, rfl, eD', pWhole g' (by rw [List.length_map, lw0]; exact hr0.1.symm)⟩, by rw [List.length_map]; exact hr0.1, fun x hx => ?_, fun q => absurd hf q⟩
      obtain ⟨y, hy, rfl⟩ := List.mem_map.mp hx
      have hy2 := hr0.2 y hy
      unfold Sm
      rw [Int.natAbs_mul]
      have h1 : (m0 - 1).natAbs ≤ 2 := by omega
      have h2 : y.natAbs ≤ 2 := by omega
      have := Nat.mul_le_mul h1 h2
      omega
    · rw [if_neg (by simpa using hf)]
      refine wpAny_execs_nil ?_
      exact ⟨rfl, B₁₀, h₂₂, _, r1, v1, rfl, .rfl, F₃, hv1, hr1.1, fun x hx => (sm2 (hr1.2 x hx)).le (by decide), fun _ => rfl⟩
  rintro f s' ⟨rfl, B₁₁, h₂₃, tk₂₂, x1, v1', rfl, le11, F₄, hv1', lx1, sx1, hx1r⟩
  have hv1'' := hv1'
  obtain ⟨l1, w1, cw1, rfl, hl1, hp1⟩ := hv1'
  have lw1 : w1.length = 4 := by rw [pLen hp1]; exact lx1
  refine wpAny_execs_cons (wpAny_mono (Q := fun f s' => f = .next ∧ ∃ B' h' tk' x2 v2', s' = mk s h' tk' ∧ B₁₁.le B' ∧ F₃.like B' (mL [("form", .int form tf), ("columns", .ref C), ("many", .int (m0 - 1) t₇), ("aim", .ref D)]) [(C, LstP [.ref l0, .ref l1, v2'])] h' ∧
    IntsV B' x2 v2' ∧ x2.length = 4 ∧ (∀ x ∈ x2, Sm 3 x)) (E := fun _ _ => False) ?_ ?_ fun _ _ e => e)
  · refine wpAny_If (wpAny_isTrue_Compare1 ?_)
    walk_at "N"
    refine cI fun _ tk₂₃ => PyProof.Rows.eq_int (wpAny_truthy_bool ?_)
    by_cases hf : form = 2
    · rw [if_pos (by rw [hf]; rfl)]
      have hx1e := hx1r (by omega)
      subst hx1e
      refine wpAny_execs_cons (wpAny_Assign_Subscript ?_)
      refine' comp_start [("columns", L + 1 + 1)] ?hcl5 ?hk5 ?hn5 ?hg5 ?hs5
      case hcl5 => rfl
      case hk5 => rfl
      case hn5 => decide
      case hs5 => exact fun _ => rfl
      refine Call_ ?_
      walk_at "N"
      refine cType (args_cons (Subscript_ ?_))
      walk_at "N"
      refine cI fun _ tk₂₄ => itemL (F₄.plain (a := C) (List.mem_singleton.mpr rfl)) (by decide) (by decide) rfl ?_
      refine args_nil (enumL "at" "number" R.quiet F₄ (le11 _ _ hl0) fun h₂₄ e it IT₄ hN₄ st₄ F₅ => ?_)
      refine (IT₄ default default 0 default).self 0 (mk s h₂₄ _) _ _ st₄ ?_
      have F5h := F₅.hide (List.mem_cons_self ..) hN₄.2 hN₄.1
      have plC := F5h.plain (a := C) (vs := [.ref l0, .ref l1, v2]) (by simp)
      refine comp_pure (fun i B₁ ys => Paired (IntV B₁) ((List.zipWith (fun x y => x + y) r0 x1).take i) ys) (IT₄ _ _ _ _) hN₄ st₄ F₅ (List.mem_cons_self ..) (by simpa using Paired.nil)
        (fun _ _ _ _ g => g) (fits (by omega)) ["columns"] (by walk_at "cells known") (fun _ => rfl) (by decide +kernel) (fun C => ⟨canL (List.mem_cons_self ..), canL (List.mem_cons_self ..)⟩) ?_ ?_
      · rintro Cc D' i B₁₂ m₂ ys h₂₅ tk₂₅ E' hi _ le12 g' ⟨_, y, ⟨ti, hy, rfl⟩, rfl⟩ G
        refine tests_nil ?_
        rw [if_pos rfl]
        obtain ⟨x, hx1, tx, rfl⟩ := pGet' hp0 hy
        have hi1 : i < x1.length := by omega
        obtain ⟨z, hz1, tz, rfl⟩ := pGet hp1 (get_getD 0 hi1)
        have plG : h₂₅.PlainList C [.ref l0, .ref l1, v2].toArray := plC.at fun o e => G.keep C o (by simp) e
        refine wpAny_BinOp ?_
        walk_at "N"
        refine Subscript_ (Subscript_ ?_)
        walk_at "N"
        refine cI fun _ tk₂₆ => itemL plG (by decide) (by decide) rfl ?_
        walk_at "N"
        refine itemL (pln_of G.sub (le12 _ _ hl1)) (by omega) (by omega) (by rw [Int.toNat_natCast]; exact hz1) (addI fun _ tk₂₇ => ?_)
        exact ⟨B₁₂, _, h₂₅, _, rfl, .rfl, pSnocTake g' (by rw [List.getElem?_zipWith, hx1, get_getD 0 hi1]) ⟨_, rfl⟩, mc_upd2 rfl rfl, G⟩
      intro Cc D' B₁₂ c₁₂ ys h₂₅ tk₂₅ hC12 le12 g' _ eD' G
      refine comp_none G (List.mem_cons_self ..) (fun x c hc q => hC12.2 x c hc (List.mem_singleton.mpr q)) (hC12.1 _ (List.mem_singleton.mpr rfl)) fun h₂₆ G₁ => ?_
      walk_at "N"
      refine cI fun _ tk₂₈ => setP [] G₁ (by decide) (by decide) (by show (2 : Nat) < 3; decide) fun h₂₇ G₂ => wpAny_execs_nil ?_
      have l0' := hr0.1
      refine ⟨rfl, B₁₂, h₂₇, _, List.zipWith (fun x y => x + y) r0 x1, .ref D', rfl, le12, G₂, ⟨_, _, _, rfl, eD', pWhole g' (by rw [List.length_zipWith]; omega)⟩, by rw [List.length_zipWith]; omega, fun x hx => ?_⟩
      obtain ⟨i, hi⟩ := List.mem_iff_getElem?.mp hx
      rw [List.getElem?_zipWith] at hi
      cases ha : r0[i]? with
      | none => rw [ha] at hi; simp at hi
      | some p =>
        cases hb : x1[i]? with
        | none => rw [ha, hb] at hi; simp at hi
        | some q =>
          rw [ha, hb] at hi
          simp at hi
          have h1 := hr0.2 p (List.mem_of_getElem? ha)
          have h2 := hr1.2 q (List.mem_of_getElem? hb)
          exact sm3 (by omega) (by omega)
    · rw [if_neg (by simpa using hf)]
      refine wpAny_execs_nil ?_
      exact ⟨rfl, B₁₁, h₂₃, _, r2, v2, rfl, .rfl, F₄, IntsV.mono _ _ _ _ le11 hv2, hr2.1, fun x hx => (sm2 (hr2.2 x hx)).le (by decide)⟩
  rintro f s' ⟨rfl, B₁₂, h₂₄, tk₂₃, x2, v2', rfl, le12, F₅, hv2', lx2, sx2⟩
  have sr0 : ∀ x ∈ r0, Sm 3 x := fun x hx => (sm2 (hr0.2 x hx)).le (by decide)
  have saim : ∀ x ∈ aim, Sm 3 x := fun x hx => (sm2 (haimb x hx)).le (by decide)
  obtain ⟨fine3, fine2, hend⟩ := plain r0 x1 x2 aim hr0.1 lx1 lx2 haiml sr0 sx1 sx2 saim
  obtain ⟨B₁₃, le13, ⟨oC, eC, cC, rfl⟩, F₆⟩ := F₅.freeze (by simp)
  have le10' := le11.trans (le12.trans le13)
  have hcols : IMatV B₁₃ [r0, x1, x2] (.ref C) := ⟨_, _, _, rfl, eC, .cons (IntsV.mono _ _ _ _ le10' hv0') (.cons (IntsV.mono _ _ _ _ (le12.trans le13) hv1'') (.cons (IntsV.mono _ _ _ _ le13 hv2') .nil))⟩
  have haim3 := IntsV.mono _ _ _ _ le10' haimV
  have T₁₃ := T.le F₆.mono
  refine wpAny_execs_cons (Assign_Tuple (Tuple_ (args_cons (Call_ ?_))))
  walk_at "N"
  refine callF T₁₃ (by k_dflt k_is) (args_cons ?_)
  walk_at "N"
  refine args_cons ?_
  walk_at "N"
  refine args_nil ⟨F₆.sub, ?_⟩
  refine looked_ok T₁₃ F₆.sub ((R.deeper _).le (by omega)) hcols haim3 fine3 fun B₁₄ h₂₅ tk₂₄ tw lw tw1 tw2 X₄ etw hlw => ?_
  have F₇ := F₆.ext X₄
  have T₁₄ := T.le F₇.mono
  have eC4 := X₄.le _ _ eC
  refine args_cons (Call_ ?_)
  walk_at "N"
  refine callF T₁₄ (by k_dflt k_is) (args_cons (List_ (args_cons (Subscript_ ?_))))
  walk_at "N"
  refine cI fun _ tk₂₅ => itemL (pln_of F₇.sub eC4) (by decide) (by decide) rfl (args_cons (Subscript_ ?_))
  walk_at "N"
  refine cI fun _ tk₂₆ => itemL (pln_of F₇.sub eC4) (by decide) (by decide) rfl (args_nil ?_)
  refine mkLstB F₇ fun B₁₅ h₂₆ l₁₅ le15 e₁₅ F₈ => args_cons ?_
  walk_at "N"
  refine args_nil ⟨F₈.sub.of_le le15, ?_⟩
  have hcols2 : IMatV B₁₅ [r0, x2] (.ref l₁₅) := ⟨_, _, _, rfl, e₁₅, .cons (IntsV.mono _ _ _ _ (le10'.trans (X₄.le.trans le15)) hv0') (.cons (IntsV.mono _ _ _ _ (le13.trans (X₄.le.trans le15)) hv2') .nil)⟩
  refine looked_ok (T.le F₈.mono) F₈.sub ((R.deeper _).le (by omega)) hcols2 (IntsV.mono _ _ _ _ (X₄.le.trans le15) haim3) fine2 fun B₁₆ h₂₇ tk₂₇ tl ll tl1 tl2 X₅ etl hll => ?_
  have F₉ := F₈.ext X₅
  obtain ⟨slw, llw, stw⟩ := fine_sm fine3
  obtain ⟨sll, lll, stl⟩ := fine_sm fine2
  unfold EndOk at hend
  generalize leftOf [r0, x1, x2] aim = LW at *
  generalize leftOf [r0, x2] aim = LL at *
  generalize prodDen (qsol [r0, x1, x2] aim) = TW at *
  generalize prodDen (qsol [r0, x2] aim) = TL at *
  generalize rankOf [r0, x1, x2] 4 = RW at *
  generalize rankOf [r0, x2] 4 = RL at *
  refine args_nil (mkTup F₉ fun B₁₇ h₂₈ t₁₇ le17 et₁₇ F₁₀ => ?_)
  have etw' := le17 _ _ (X₅.le _ _ (le15 _ _ etw))
  have etl' := le17 _ _ etl
  have hlw' : IntsV B₁₇ LW lw := IntsV.mono _ _ _ _ (le15.trans (X₅.le.trans le17)) hlw
  have hll' : IntsV B₁₇ LL ll := IntsV.mono _ _ _ _ le17 hll
  refine asgT R.quiet F₁₀ et₁₇ rfl rfl fun h₂₉ F₁₁ => ?_
  refine assignInOrder_cons (wpAny_assign_Name ?_)
  walk_at "storeName"
  intro h₃₀ tk₂₈ F₁₂
  refine assignInOrder_cons (wpAny_assign_Name ?_)
  walk_at "storeName"
  intro h₃₁ tk₂₉ F₁₃
  have T₁₇ := T.le F₁₃.mono
  refine assignInOrder_nil ?_
  refine wpAny_execs_cons (wpAny_If (isTrue_or (wpAny_isTrue_Compare1 ?_)))
  walk_at "N"
  refine cNone (is_none_ne (by simp) (wpAny_truthy_bool ?_))
  rw [if_neg (by decide)]
  refine isTrue_or (wpAny_isTrue_Compare1 ?_)
  walk_at "N"
  refine cNone (is_none_ne (by simp) (wpAny_truthy_bool ?_))
  rw [if_neg (by decide)]
  refine isTrue_or_nil ?_
  rw [if_neg (by decide)]
  refine wpAny_execs_nil ?_
  refine wpAny_execs_cons ?_
  refine Assign_Tuple_swapped (names := ["far", "near"]) ?_
  refine Tuple_ ?_
  refine args_cons ?_
  refine wpAny_BinOp ?_
  refine wpAny_BinOp ?_
  refine Subscript_ ?_
  walk_at "N"
  refine cI fun _ tk₃₀ => itemT F₁₃ etw' (by decide) (by decide) rfl (Subscript_ ?_)
  walk_at "N"
  refine cI fun _ tk₃₁ => itemT F₁₃ etw' (by decide) (by decide) rfl (mulI stw stw (by decide) (by decide) fun _ tk₃₂ => Call_ ?_)
  walk_at "N"
  refine callF T₁₇ (by k_dflt k_is) (args_cons (Subscript_ ?_))
  walk_at "N"
  refine cI fun _ tk₃₃ => itemT F₁₃ etl' (by decide) (by decide) rfl (args_cons (Subscript_ ?_))
  walk_at "N"
  refine cI fun _ tk₃₄ => itemT F₁₃ etl' (by decide) (by decide) rfl (args_nil ⟨F₁₃.sub, ?_⟩)
  refine by_ok T₁₇ F₁₃.sub ((R.deeper _).le (by omega)) hll' hll' rfl (by omega) sll sll (by decide) (by decide) fun B₁₈ h₃₂ tk₃₅ _ X₆ => ?_
  have F₁₄ := F₁₃.ext X₆
  have etw8 := X₆.le _ _ etw'
  have etl8 := X₆.le _ _ etl'
  have T₁₈ := T.le F₁₄.mono
  refine mulI (k := 40000) (l := 90000) ((stw.mul stw).le (by decide)) ((dot_sm sll sll (by rw [lll]; exact Nat.le_refl _)).le (by decide)) (by decide) (by decide) fun t₁₈ tk₃₆ => ?_
  refine args_cons (wpAny_BinOp (wpAny_BinOp (Subscript_ ?_)))
  walk_at "N"
  refine cI fun _ tk₃₇ => itemT F₁₄ etl8 (by decide) (by decide) rfl (Subscript_ ?_)
  walk_at "N"
  refine cI fun _ tk₃₈ => itemT F₁₄ etl8 (by decide) (by decide) rfl (mulI stl stl (by decide) (by decide) fun _ tk₃₉ => Call_ ?_)
  walk_at "N"
  refine callF T₁₈ (by k_dflt k_is) (args_cons (Subscript_ ?_))
  walk_at "N"
  refine cI fun _ tk₄₀ => itemT F₁₄ etw8 (by decide) (by decide) rfl (args_cons (Subscript_ ?_))
  walk_at "N"
  refine cI fun _ tk₄₁ => itemT F₁₄ etw8 (by decide) (by decide) rfl (args_nil ⟨F₁₄.sub, ?_⟩)
  have hlw8 := IntsV.mono _ _ _ _ X₆.le hlw'
  have hll8 := IntsV.mono _ _ _ _ X₆.le hll'
  refine by_ok T₁₈ F₁₄.sub ((R.deeper _).le (by omega)) hlw8 hlw8 rfl (by omega) slw slw (by decide) (by decide) fun B₁₉ h₃₃ tk₄₂ _ X₇ => ?_
  have F₁₅ := F₁₄.ext X₇
  refine mulI (k := 40000) (l := 90000) ((stl.mul stl).le (by decide)) ((dot_sm slw slw (by rw [llw]; exact Nat.le_refl _)).le (by decide)) (by decide) (by decide) fun t₁₉ tk₄₃ => args_nil ?_
  refine mkTup F₁₅ fun B₂₀ h₃₄ t₂₀ le20 et₂₀ F₁₆ => ?_
  refine unpk R.quiet F₁₆ et₂₀ rfl fun h₃₅ F₁₇ => ?_
  refine assignInOrder_cons (wpAny_bindName ?_)
  walk_at "storeName"
  intro h₃₆ tk₄₄ F₁₈
  refine assignInOrder_cons (wpAny_bindName ?_)
  walk_at "storeName"
  intro h₃₇ tk₄₅ F₁₉
  have F₂₀ := F₁₉.forget (m' := mL [("whole", .ref tw), ("less", .ref tl), ("far", .int (TW * TW * dot LL LL) t₁₈), ("near", .int (TL * TL * dot LW LW) t₁₉)]) (mL_forget (by walk_at "known"))
  have leZ := X₇.le.trans le20
  have etw9 := leZ _ _ etw8
  have etl9 := leZ _ _ etl8
  refine assignInOrder_nil (wpAny_execs_cons (wpAny_Assign_Name (wpAny_Compare1 ?_)))
  have hll9 := IntsV.mono _ _ _ _ leZ hll8
  have hlw9 := IntsV.mono _ _ _ _ leZ hlw8
  obtain ⟨a1, y1, c1, rfl, hl1', hp1'⟩ := hll9
  obtain ⟨a2, y2, c2', rfl, hl2', hp2'⟩ := hlw9
  have ly1 : y1.length = 4 := by rw [pLen hp1']; exact lll
  have ly2 : y2.length = 4 := by rw [pLen hp2']; exact llw
  refine' comp_start [("whole", L + 1 + 1 + 1 + 1)] ?hcl61 ?hk61 ?hn61 ?hg61 ?hs61
  case hcl61 => rfl
  case hk61 => rfl
  case hn61 => decide
  case hs61 => exact fun _ => rfl
  refine Subscript_ ?_
  walk_at "N"
  refine cI fun _ _ => itemT F₂₀ etl9 (by decide) (by decide) rfl ?_
  refine iterL "number" R.quiet F₂₀ hl1' fun h61 I61 IT61 hN61 st61 G61 => ?_
  refine comp_pure (ps := []) (fun i B₁ ys => Paired (IntV B₁) ((LL.map fun x => TW * x).take i) ys) (IT61 _) hN61 st61 G61 (List.mem_cons_self ..) (by simpa using Paired.nil)
    (fun _ _ _ _ g => g) (fits (by omega)) ["whole"] (by walk_at "cells known") (fun _ => rfl) (by decide +kernel) (fun C => canL (List.mem_cons_self ..)) ?_ ?_
  · rintro Cc D' i Bx m₂ ys hx tkx E' hi _ lex g' ⟨y, hy, rfl⟩ G
    refine tests_nil ?_
    rw [if_pos rfl]
    obtain ⟨x, hx1, tx, rfl⟩ := pGet' hp1' hy
    refine wpAny_BinOp (Subscript_ ?_)
    walk_at "N"
    refine cI fun _ _ => itemT G (lex _ _ etw9) (by decide) (by decide) rfl ?_
    walk_at "N"
    refine mulI stw (sll x (List.mem_of_getElem? hx1)) (by decide) (by decide) fun _ _ => ?_
    exact ⟨Bx, _, hx, _, rfl, .rfl, pSnocTake g' (by rw [List.getElem?_map, hx1]; rfl) ⟨_, rfl⟩, mc_upd rfl, G⟩
  intro Cc61 D61 B61 c61 ys61 hh61 tk61 hC61 le61 g61 _ eD61 G
  have g61 := pWhole g61 (by rw [List.length_map]; omega)
  refine comp_none G (List.mem_cons_self ..) (fun x c hc q => hC61.2 x c hc (List.mem_singleton.mpr q)) (hC61.1 _ (List.mem_singleton.mpr rfl)) fun hz61 Z61 => ?_
  refine' comp_start [("less", L + 1 + 1 + 1 + 1 + 1)] ?hcl62 ?hk62 ?hn62 ?hg62 ?hs62
  case hcl62 => rfl
  case hk62 => rfl
  case hn62 => decide
  case hs62 => exact fun _ => rfl
  refine Subscript_ ?_
  walk_at "N"
  refine cI fun _ _ => itemT Z61 (le61 _ _ etw9) (by decide) (by decide) rfl ?_
  refine iterL "number" R.quiet Z61 (le61 _ _ hl2') fun h62 I62 IT62 hN62 st62 G62 => ?_
  refine comp_pure (ps := []) (fun i B₁ ys => Paired (IntV B₁) ((LW.map fun x => TL * x).take i) ys) (IT62 _) hN62 st62 G62 (List.mem_cons_self ..) (by simpa using Paired.nil)
    (fun _ _ _ _ g => g) (fits (by omega)) ["less"] (by walk_at "cells known") (fun _ => rfl) (by decide +kernel) (fun C => canL (List.mem_cons_self ..)) ?_ ?_
  · rintro Cc D' i Bx m₂ ys hx tkx E' hi _ lex g' ⟨y, hy, rfl⟩ G
    refine tests_nil ?_
    rw [if_pos rfl]
    obtain ⟨x, hx1, tx, rfl⟩ := pGet' hp2' hy
    refine wpAny_BinOp (Subscript_ ?_)
    walk_at "N"
    refine cI fun _ _ => itemT G (lex _ _ (le61 _ _ etl9)) (by decide) (by decide) rfl ?_
    walk_at "N"
    refine mulI stl (slw x (List.mem_of_getElem? hx1)) (by decide) (by decide) fun _ _ => ?_
    exact ⟨Bx, _, hx, _, rfl, .rfl, pSnocTake g' (by rw [List.getElem?_map, hx1]; rfl) ⟨_, rfl⟩, mc_upd rfl, G⟩
  intro Cc62 D62 B62 c62 ys62 hh62 tk62 hC62 le62 g62 _ eD62 G
  have g62 := pWhole g62 (by rw [List.length_map]; omega)
  refine comp_none G (List.mem_cons_self ..) (fun x c hc q => hC62.2 x c hc (List.mem_singleton.mpr q)) (hC62.1 _ (List.mem_singleton.mpr rfl)) fun hz62 Z62 => ?_
  refine eqInts (B := B62) (pln_of Z62.sub (le62 _ _ eD61)) (pln_of Z62.sub eD62) g61 g62 ((R.deeper _).le (by omega)) ?_
  walk_at "storeName"
  intro h₇₀ tk₇₀ Z₂
  refine wpAny_execs_cons ?_
  refine wpAny_Return_some ?_
  refine BoolOp_and (wpAny_Compare1 ?_)
  walk_at "N"
  walk_at "N"
  refine PyProof.Rows.ge_int (wpAny_truthy_bool ?_)
  rw [if_pos (by rw [decide_eq_true_eq]; exact hend.1)]
  refine BoolOp_one (BoolOp_or ?_)
  walk_at "N"
  refine wpAny_truthy_bool ?_
  by_cases hs : LL.map (fun x => TW * x) = LW.map (fun x => TL * x)
  · rw [decide_eq_true hs, if_pos rfl]
    exact hq _ _ _ Z₂.toExt
  · rw [decide_eq_false hs, if_neg (by decide)]
    refine BoolOp_one (wpAny_Compare1 (Subscript_ ?_))
    walk_at "N"
    have leY := le61.trans le62
    refine cI fun _ _ => itemT Z₂ (leY _ _ etw9) (by decide) (by decide) rfl (Subscript_ ?_)
    walk_at "N"
    refine cI fun _ _ => itemT Z₂ (leY _ _ etl9) (by decide) (by decide) rfl (PyProof.Rows.gt_int ?_)
    have hlt := hend.2.resolve_left hs
    rw [decide_eq_true (show (RW : Int) > (RL : Int) by omega)]
    exact hq _ _ _ Z₂.toExt
end
/-- a property of rows that row operations keep -/
structure Cl (P : List Rat → Prop) : Prop where
  sub : ∀ q r p, P r → P p → r.length = p.length → P (rowSub q r p)
  mul : ∀ q r, P r → P (r.map fun x => x * q)
theorem map_div {r : List Rat} {q : Rat} : (r.map fun x => x / q) = r.map fun x => x * q⁻¹ := by
  refine List.map_congr_left fun x _ => ?_
  rw [Rat.div_def]
theorem all_elim {P : List Rat → Prop} (C : Cl P) {n w row c m : Nat} {F : List (List Rat)} (R : Rect m w F) (hr : row < m) (h : ∀ r ∈ F, P r) : ∀ r ∈ elimTo n row c F, P r := by
  intro x hx
  obtain ⟨i, hi⟩ := List.mem_iff_getElem?.mp hx
  rw [elimTo_get] at hi
  cases e : F[i]? with
  | none => rw [e] at hi; cases hi
  | some r =>
    rw [e, Option.map_some] at hi
    have hm := List.mem_of_getElem? e
    cases hi
    split
    · exact C.sub _ _ _ (h r hm) (h _ (getD_mem (by rw [R.1]; exact hr))) (by rw [R.2 r hm, R.row hr])
    · exact h r hm
theorem all_scale {P : List Rat → Prop} (C : Cl P) {w row c m : Nat} {F : List (List Rat)} (R : Rect m w F) (hr : row < m) (h : ∀ r ∈ F, P r) : ∀ r ∈ scale row c F, P r := by
  intro x hx
  rcases List.mem_or_eq_of_mem_set hx with q | q
  · exact h x q
  · rw [q, map_div]; exact C.mul _ _ (h _ (getD_mem (by rw [R.1]; exact hr)))
theorem all_swp {P : List Rat → Prop} {w i j m : Nat} {F : List (List Rat)} (R : Rect m w F) (hi : i < m) (hj : j < m) (h : ∀ r ∈ F, P r) : ∀ r ∈ swp i j F, P r := by
  intro x hx
  rcases List.mem_or_eq_of_mem_set hx with q | q
  · rcases List.mem_or_eq_of_mem_set q with q | q
    · exact h x q
    · rw [q]; exact h _ (getD_mem (by rw [R.1]; exact hj))
  · rw [q]; exact h _ (getD_mem (by rw [R.1]; exact hi))
theorem echTo_rect {n w : Nat} {M : List (List Rat)} (R : Rect n w M) : ∀ c, Rect n w (echTo M c).1
  | 0 => R
  | c + 1 => by
    have ih := echTo_rect R c
    rw [echTo_succ, echStep]
    cases e : (spot (echTo M c).1 c (echTo M c).2.length).head? with
    | none => exact ih
    | some p =>
      obtain ⟨h1, h2, _⟩ := spot_mem e
      rw [ih.1] at h2
      exact ((ih.swp (by omega) h2).scale (by omega)).elimTo (by omega)
theorem echTo_all {P : List Rat → Prop} (C : Cl P) {n w : Nat} {M : List (List Rat)} (R : Rect n w M) (h : ∀ r ∈ M, P r) : ∀ c, ∀ r ∈ (echTo M c).1, P r
  | 0 => h
  | c + 1 => by
    have ih := echTo_all C R h c
    have iR := echTo_rect R c
    rw [echTo_succ, echStep]
    cases e : (spot (echTo M c).1 c (echTo M c).2.length).head? with
    | none => exact ih
    | some p =>
      obtain ⟨h1, h2, _⟩ := spot_mem e
      rw [iR.1] at h2
      have R1 := iR.swp (i := (echTo M c).2.length) (by omega) h2
      exact all_elim C (R1.scale (by omega)) (by omega) (all_scale C R1 (by omega) (all_swp iR (by omega) h2 ih))
theorem rowSub_undo {q : Rat} {r p : List Rat} (h : r.length = p.length) : rowSub (-q) (rowSub q r p) p = r := by
  refine List.ext_getElem? fun i => ?_
  rcases Nat.lt_or_ge i r.length with h1 | h1
  · have e1 := List.getElem?_eq_getElem h1
    have e2 := List.getElem?_eq_getElem (show i < p.length by omega)
    rw [rowSub_get (rowSub_get e1 e2) e2, e1]
    congr 1
    grind
  · rw [List.getElem?_eq_none h1, List.getElem?_eq_none (by rw [rowSub_len _ _ _ (by rw [rowSub_len _ _ _ h, h]), rowSub_len _ _ _ h]; exact h1)]
theorem all_elim_rev {P : List Rat → Prop} (C : Cl P) {n w row c m : Nat} {F : List (List Rat)} (R : Rect m w F) (hr : row < m) (h : ∀ r ∈ elimTo n row c F, P r) : ∀ r ∈ F, P r := by
  intro r hm
  obtain ⟨i, hi⟩ := List.mem_iff_getElem?.mp hm
  have hp : P (F.getD row []) := by
    have := h ((elimTo n row c F).getD row []) (getD_mem (by rw [elimTo_len, R.1]; exact hr))
    rwa [elimTo_row] at this
  have hl : r.length = (F.getD row []).length := by rw [R.2 r hm, R.row hr]
  have e := elimTo_get n row c F i
  rw [hi, Option.map_some] at e
  have hx := h _ (List.mem_of_getElem? e)
  split at hx
  · have := C.sub (-(r.getD c 0)) _ _ hx hp (by rw [rowSub_len _ _ _ hl, hl])
    rwa [rowSub_undo hl] at this
  · exact hx
theorem all_scale_rev {P : List Rat → Prop} (C : Cl P) {w row c m : Nat} {F : List (List Rat)} (R : Rect m w F) (hr : row < m) (h0 : (F.getD row []).getD c 0 ≠ 0) (h : ∀ r ∈ scale row c F, P r) : ∀ r ∈ F, P r := by
  intro r hm
  obtain ⟨i, hi⟩ := List.mem_iff_getElem?.mp hm
  by_cases q : i = row
  · subst q
    have hp := h ((scale i c F).getD i []) (getD_mem (by rw [scale, List.length_set, R.1]; exact hr))
    rw [scale_row R hr, getD_eq hi] at hp
    rw [getD_eq hi] at h0
    have := C.mul (r.getD c 0) _ hp
    rw [List.map_map] at this
    have e : (r.map ((fun x => x * r.getD c 0) ∘ fun x => x / r.getD c 0)) = r := by
      rw [List.map_congr_left (g := id) fun x _ => ?_, List.map_id]
      exact Rat.div_mul_cancel h0
    rwa [e] at this
  · exact h r (List.mem_of_getElem? (i := i) (by rw [scale_other q]; exact hi))
theorem swp_get {F : List (List Rat)} {n w i j : Nat} (R : Rect n w F) (hi : i < n) (hj : j < n) (k : Nat) : (swp i j F)[k]? = if k = j then F[i]? else if k = i then F[j]? else F[k]? := by
  have h1 := R.1
  unfold swp
  rw [List.getElem?_set, List.length_set]
  by_cases e : j = k
  · subst e
    rw [if_pos rfl, if_pos rfl, if_pos (by omega), get_getD [] (by omega)]
  · rw [if_neg e, if_neg (fun q => e q.symm), List.getElem?_set]
    by_cases e2 : i = k
    · subst e2
      rw [if_pos rfl, if_pos rfl, if_pos (by omega), get_getD [] (show j < F.length by omega)]
    · rw [if_neg e2, if_neg (fun q => e2 q.symm)]
theorem all_swp_rev {P : List Rat → Prop} {w i j m : Nat} {F : List (List Rat)} (R : Rect m w F) (hi : i < m) (hj : j < m) (h : ∀ r ∈ swp i j F, P r) : ∀ r ∈ F, P r := by
  intro r hm
  obtain ⟨k, hk⟩ := List.mem_iff_getElem?.mp hm
  by_cases e1 : k = i
  · subst e1
    exact h r (List.mem_of_getElem? (i := j) (by rw [swp_get R hi hj, if_pos rfl]; exact hk))
  · by_cases e2 : k = j
    · subst e2
      exact h r (List.mem_of_getElem? (i := i) (by rw [swp_get R hi hj, if_neg (fun q => e1 q.symm), if_pos rfl]; exact hk))
    · exact h r (List.mem_of_getElem? (i := k) (by rw [swp_get R hi hj, if_neg e2, if_neg e1]; exact hk))
theorem echTo_all_rev {P : List Rat → Prop} (C : Cl P) {n w : Nat} {M : List (List Rat)} (R : Rect n w M) : ∀ c, (∀ r ∈ (echTo M c).1, P r) → ∀ r ∈ M, P r
  | 0, h => h
  | c + 1, h => by
    have iR := echTo_rect R c
    refine echTo_all_rev C R c ?_
    rw [echTo_succ, echStep] at h
    cases e : (spot (echTo M c).1 c (echTo M c).2.length).head? with
    | none => rw [e] at h; exact h
    | some p =>
      rw [e] at h
      obtain ⟨h1, h2, h3⟩ := spot_mem e
      rw [iR.1] at h2
      have hr : (echTo M c).2.length < n := by omega
      have R1 := iR.swp hr h2
      exact all_swp_rev iR hr h2 (all_scale_rev C R1 hr (by rw [swp_row iR hr h2]; exact h3) (all_elim_rev C (R1.scale hr) hr h))
def en (F : List (List Rat)) (i j : Nat) : Rat := (F.getD i []).getD j 0
theorem getD_over {r : List Rat} {j : Nat} (h : r.length ≤ j) : r.getD j 0 = 0 := by
  rw [List.getD_eq_getElem?_getD, List.getElem?_eq_none h]; rfl
theorem rowSub_getD {q : Rat} {r p : List Rat} (h : r.length = p.length) (j : Nat) : (rowSub q r p).getD j 0 = r.getD j 0 - q * p.getD j 0 := by
  rcases Nat.lt_or_ge j r.length with h1 | h1
  · exact getD_eq (rowSub_get (get_getD 0 h1) (get_getD 0 (by omega)))
  · rw [getD_over (by rw [rowSub_len _ _ _ h]; exact h1), getD_over h1, getD_over (by omega)]; grind
theorem en_elim {n w row c : Nat} {F : List (List Rat)} (R : Rect n w F) (hr : row < n) {i : Nat} (hi : i < n) (j : Nat) :
    en (elim row c F) i j = if i = row then en F row j else en F i j - en F i c * en F row j := by
  have e := elimTo_get F.length row c F i
  rw [get_getD [] (show i < F.length by rw [R.1]; exact hi), Option.map_some] at e
  unfold en elim
  rw [getD_eq e]
  by_cases q : i = row
  · subst q; rw [if_neg (by omega), if_pos rfl]
  · rw [if_pos ⟨by rw [R.1]; exact hi, q⟩, if_neg q, rowSub_getD (by rw [R.row hi, R.row hr])]
theorem en_scale {n w row c : Nat} {F : List (List Rat)} (R : Rect n w F) (hr : row < n) (i j : Nat) :
    en (scale row c F) i j = if i = row then en F row j / en F row c else en F i j := by
  by_cases q : i = row
  · subst q
    rw [if_pos rfl]
    unfold en
    rw [scale_row R hr]
    rcases Nat.lt_or_ge j (F.getD i []).length with h1 | h1
    · have e : ((F.getD i []).map fun x => x / (F.getD i []).getD c 0)[j]? = some ((F.getD i []).getD j 0 / (F.getD i []).getD c 0) := by
        rw [List.getElem?_map, get_getD 0 h1]; rfl
      exact getD_eq e
    · rw [getD_over (by rw [List.length_map]; exact h1), getD_over h1, Rat.div_def, Rat.zero_mul]
  · rw [if_neg q]
    unfold en
    rw [List.getD_eq_getElem?_getD (l := scale row c F), scale_other q, ← List.getD_eq_getElem?_getD]
theorem en_swp {n w row p : Nat} {F : List (List Rat)} (R : Rect n w F) (hr : row < n) (hp : p < n) (i j : Nat) :
    en (swp row p F) i j = if i = p then en F row j else if i = row then en F p j else en F i j := by
  unfold en
  rw [List.getD_eq_getElem?_getD (l := swp row p F), swp_get R hr hp]
  split
  · rw [← List.getD_eq_getElem?_getD]
  · split
    · rw [← List.getD_eq_getElem?_getD]
    · rw [← List.getD_eq_getElem?_getD]
/-! the shape of a half-done echelon form -/
structure Shp (n w : Nat) (F : List (List Rat)) (pv : List Nat) (c : Nat) : Prop where
  rect : Rect n w F
  lt : ∀ x ∈ pv, x < c
  le : pv.length ≤ n
  unit : ∀ k, k < pv.length → ∀ i, i < n → en F i (pv.getD k 0) = if i = k then 1 else 0
  low : ∀ i, pv.length ≤ i → i < n → ∀ j, j < c → en F i j = 0
  left : ∀ k, k < pv.length → ∀ j, j < pv.getD k 0 → en F k j = 0
  all : pv = (List.range c).filter fun d => decide (d ∈ pv)

theorem snoc_lt {pv : List Nat} {c k : Nat} (h : k < pv.length) : (pv ++ [c]).getD k 0 = pv.getD k 0 := by
  rw [List.getD_eq_getElem?_getD, List.getElem?_append_left h, ← List.getD_eq_getElem?_getD]
theorem snoc_eq {pv : List Nat} {c : Nat} : (pv ++ [c]).getD pv.length 0 = c := by
  rw [List.getD_eq_getElem?_getD, List.getElem?_append_right (Nat.le_refl _), Nat.sub_self]; rfl
theorem Shp.zero {n w : Nat} {M : List (List Rat)} (R : Rect n w M) : Shp n w M [] 0 :=
  ⟨R, fun _ h => absurd h List.not_mem_nil, Nat.zero_le _, fun _ h => absurd h (Nat.not_lt_zero _), fun _ _ _ _ h => absurd h (Nat.not_lt_zero _), fun _ h => absurd h (Nat.not_lt_zero _), rfl⟩
theorem Shp.none {n w c : Nat} {F : List (List Rat)} {pv : List Nat} (S : Shp n w F pv c) (h : ∀ p, pv.length ≤ p → p < F.length → (F.getD p []).getD c 0 = 0) : Shp n w F pv (c + 1) := by
  refine ⟨S.rect, fun x hx => Nat.lt_succ_of_lt (S.lt x hx), S.le, S.unit, fun i h1 h2 j hj => ?_, S.left, ?_⟩
  · rcases Nat.lt_or_ge j c with q | q
    · exact S.low i h1 h2 j q
    · have : j = c := by omega
      subst this
      exact h i h1 (by rw [S.rect.1]; exact h2)
  · rw [List.range_succ, List.filter_append, ← S.all, List.filter_cons_of_neg, List.filter_nil, List.append_nil]
    have : c ∉ pv := fun q => Nat.lt_irrefl _ (S.lt c q)
    simpa using this
theorem Shp.some {n w c p : Nat} {F : List (List Rat)} {pv : List Nat} (S : Shp n w F pv c) (h1 : pv.length ≤ p) (h2 : p < n) (h3 : en F p c ≠ 0) :
    Shp n w (elim pv.length c (scale pv.length c (swp pv.length p F))) (pv ++ [c]) (c + 1) := by
  have R := S.rect
  have hm : pv.length < n := by omega
  have R1 := R.swp hm h2
  have R2 := R1.scale (c := c) hm
  have hrow : ∀ j, en (swp pv.length p F) pv.length j = en F p j := fun j => by
    rw [en_swp R hm h2]
    by_cases q : pv.length = p
    · rw [if_pos q, ← q]
    · rw [if_neg q, if_pos rfl]
  have hS : ∀ i j, i < n → i ≠ pv.length → en (elim pv.length c (scale pv.length c (swp pv.length p F))) i j = en (swp pv.length p F) i j - en (swp pv.length p F) i c * (en F p j / en F p c) := fun i j hi hne => by
    rw [en_elim R2 hm hi, if_neg hne, en_scale R1 hm, if_neg hne, en_scale R1 hm, if_neg hne, en_scale R1 hm, if_pos rfl, hrow, hrow]
  have hT : ∀ j, en (elim pv.length c (scale pv.length c (swp pv.length p F))) pv.length j = en F p j / en F p c := fun j => by
    rw [en_elim R2 hm hm, if_pos rfl, en_scale R1 hm, if_pos rfl, hrow, hrow]
  have hd1 : en F p c / en F p c = 1 := by rw [Rat.div_def]; exact Rat.mul_inv_cancel _ h3
  have hz : ∀ j, en F p j = 0 → en F p j / en F p c = 0 := fun j q => by rw [q, Rat.div_def, Rat.zero_mul]
  have len : (pv ++ [c]).length = pv.length + 1 := by simp
  refine ⟨R2.elimTo hm, fun x hx => ?_, by rw [len]; exact hm, fun k hk i hi => ?_, fun i hi hn j hj => ?_, fun k hk j hj => ?_, ?_⟩
  · rcases List.mem_append.mp hx with q | q
    · exact Nat.lt_succ_of_lt (S.lt x q)
    · rw [List.mem_singleton.mp q]; exact Nat.lt_succ_self _
  · rw [len] at hk
    by_cases hk2 : k < pv.length
    · rw [snoc_lt hk2]
      have hp0 : en F p (pv.getD k 0) = 0 := by rw [S.unit k hk2 p h2, if_neg (by omega)]
      by_cases e : i = pv.length
      · rw [e, hT, hz _ hp0, if_neg (by omega)]
      · rw [hS i _ hi e, hz _ hp0, Rat.mul_zero, Rat.sub_eq_add_neg, Rat.neg_zero, Rat.add_zero, en_swp R hm h2]
        by_cases e2 : i = p
        · rw [if_pos e2, S.unit k hk2 _ hm, if_neg (by omega), if_neg (by omega)]
        · rw [if_neg e2, if_neg e, S.unit k hk2 _ hi]
    · have ek : k = pv.length := by omega
      rw [ek, snoc_eq]
      by_cases e : i = pv.length
      · rw [e, hT, hd1, if_pos rfl]
      · rw [hS i _ hi e, hd1, Rat.mul_one, Rat.sub_self, if_neg e]
  · rw [len] at hi
    have e : i ≠ pv.length := by omega
    rw [hS i _ hn e]
    by_cases ej : j = c
    · rw [ej, hd1, Rat.mul_one, Rat.sub_self]
    · rw [hz j (S.low p h1 h2 j (by omega)), Rat.mul_zero, Rat.sub_eq_add_neg, Rat.neg_zero, Rat.add_zero, en_swp R hm h2]
      by_cases e2 : i = p
      · rw [if_pos e2]; exact S.low _ (Nat.le_refl _) hm j (by omega)
      · rw [if_neg e2, if_neg e]; exact S.low i (by omega) hn j (by omega)
  · rw [len] at hk
    by_cases hk2 : k < pv.length
    · rw [snoc_lt hk2] at hj
      have hlt := S.lt _ (getD_mem (d := 0) hk2)
      rw [hS k _ (by omega) (by omega), hz j (S.low p h1 h2 j (by omega)), Rat.mul_zero, Rat.sub_eq_add_neg, Rat.neg_zero, Rat.add_zero, en_swp R hm h2, if_neg (by omega), if_neg (by omega)]
      exact S.left k hk2 j hj
    · have ek : k = pv.length := by omega
      rw [ek, snoc_eq] at hj
      rw [ek, hT]
      exact hz j (S.low p h1 h2 j hj)
  · have hc : c ∉ pv := fun q => Nat.lt_irrefl _ (S.lt c q)
    rw [List.range_succ, List.filter_append, List.filter_cons_of_pos (by simp), List.filter_nil]
    congr 1
    refine S.all.trans (List.filter_congr fun d hd => ?_)
    have : d < c := List.mem_range.mp hd
    have h5 : d ≠ c := by omega
    simp [h5]
theorem shp {n w : Nat} {M : List (List Rat)} (R : Rect n w M) : ∀ c, Shp n w (echTo M c).1 (echTo M c).2 c
  | 0 => Shp.zero R
  | c + 1 => by
    have S := shp R c
    rw [echTo_succ, echStep]
    cases e : (spot (echTo M c).1 c (echTo M c).2.length).head? with
    | none => exact S.none (spot_none e)
    | some p =>
      obtain ⟨h1, h2, h3⟩ := spot_mem e
      rw [S.rect.1] at h2
      exact S.some h1 h2 h3
theorem Shp.inj {n w c : Nat} {F : List (List Rat)} {pv : List Nat} (S : Shp n w F pv c) {k l : Nat} (hk : k < pv.length) (hl : l < pv.length) (h : pv.getD k 0 = pv.getD l 0) : k = l := by
  have h1 := S.unit k hk k (by have := S.le; omega)
  have h2 := S.unit l hl k (by have := S.le; omega)
  rw [if_pos rfl] at h1
  rw [← h, h1] at h2
  by_cases e : k = l
  · exact e
  · rw [if_neg e] at h2; exact absurd h2 (by decide)
theorem Shp.idx {n w c : Nat} {F : List (List Rat)} {pv : List Nat} (_ : Shp n w F pv c) {j : Nat} (h : j ∈ pv) : ∃ k, k < pv.length ∧ pv.getD k 0 = j := by
  obtain ⟨k, hk⟩ := List.mem_iff_getElem?.mp h
  exact ⟨k, (List.getElem?_eq_some_iff.mp hk).1, getD_eq hk⟩
theorem count_pv {n w c : Nat} {F : List (List Rat)} {pv : List Nat} (S : Shp n w F pv c) : pv.length + ((List.range c).filter fun d => decide (d ∉ pv)).length = c := by
  have e : pv.length = ((List.range c).filter fun d => decide (d ∈ pv)).length := congrArg List.length S.all
  rw [e, ← List.countP_eq_length_filter, ← List.countP_eq_length_filter]
  have := List.length_eq_countP_add_countP (fun d => decide (d ∈ pv)) (l := List.range c)
  rw [List.length_range] at this
  rw [← List.countP_eq_length_filter] at *
  have h2 : List.countP (fun d => decide (d ∉ pv)) (List.range c) = List.countP (fun a => decide ¬decide (a ∈ pv) = true) (List.range c) := by
    congr 1; funext d; simp
  omega

/-! sums -/
def sm : Nat → (Nat → Rat) → Rat
  | 0, _ => 0
  | n + 1, f => sm n f + f n
theorem sm_congr {f g : Nat → Rat} : ∀ n, (∀ j, j < n → f j = g j) → sm n f = sm n g
  | 0, _ => rfl
  | n + 1, h => by rw [sm, sm, sm_congr n fun j hj => h j (by omega), h n (by omega)]
theorem sm_lin {f g : Nat → Rat} (q : Rat) : ∀ n, sm n (fun j => f j - q * g j) = sm n f - q * sm n g
  | 0 => by simp only [sm]; grind
  | n + 1 => by rw [sm, sm, sm, sm_lin q n]; grind
theorem sm_mul {f : Nat → Rat} (q : Rat) : ∀ n, sm n (fun j => f j * q) = sm n f * q
  | 0 => by simp [sm]
  | n + 1 => by rw [sm, sm, sm_mul q n]; grind
theorem sm_zero {f : Nat → Rat} : ∀ n, (∀ j, j < n → f j = 0) → sm n f = 0
  | 0, _ => rfl
  | n + 1, h => by rw [sm, sm_zero n fun j hj => h j (by omega), h n (by omega), Rat.add_zero]
theorem sm_upd {f g : Nat → Rat} {p : Nat} (h : ∀ j, j ≠ p → g j = f j) : ∀ n, sm n g = sm n f + if p < n then g p - f p else 0
  | 0 => by rw [if_neg (by omega)]; simp only [sm]; grind
  | n + 1 => by
    rw [sm, sm, sm_upd h n]
    by_cases e : n = p
    · subst e; rw [if_neg (by omega), if_pos (by omega)]; grind
    · rw [h n e]
      by_cases e2 : p < n
      · rw [if_pos e2, if_pos (by omega)]; grind
      · rw [if_neg e2, if_neg (by omega)]; grind
/-- a row held against numbers -/
def rd (w : Nat) (r x : List Rat) : Rat := sm w fun j => r.getD j 0 * x.getD j 0
theorem getD_set {α : Type} {d y : α} {x : List α} {p j : Nat} : (x.set p y).getD j d = if p = j ∧ j < x.length then y else x.getD j d := by
  rw [List.getD_eq_getElem?_getD, List.getElem?_set]
  by_cases e : p = j
  · subst e
    rw [if_pos rfl]
    by_cases h : p < x.length
    · rw [if_pos h, if_pos ⟨rfl, h⟩]; rfl
    · rw [if_neg h, if_neg (fun q => h q.2), List.getD_eq_getElem?_getD, List.getElem?_eq_none (by omega)]
  · rw [if_neg e, if_neg (fun q => e q.1), List.getD_eq_getElem?_getD]
theorem rd_set {w p : Nat} {r x : List Rat} {y : Rat} (hx : x.length = w) (hp : p < w) : rd w r (x.set p y) = rd w r x + r.getD p 0 * (y - x.getD p 0) := by
  unfold rd
  rw [sm_upd (f := fun j => r.getD j 0 * x.getD j 0) (p := p) (fun j hj => by rw [getD_set, if_neg (fun q => hj q.1.symm)]) w, if_pos hp]
  rw [getD_set, if_pos ⟨rfl, by omega⟩]
  grind
theorem rd_cl (w : Nat) (x : List Rat) : Cl fun r => rd w r x = 0 where
  sub := fun q r p h1 h2 hl => by
    have e : rd w (rowSub q r p) x = rd w r x - q * rd w p x := by
      unfold rd
      rw [← sm_lin]
      refine sm_congr w fun j _ => ?_
      rw [rowSub_getD hl]; grind
    rw [e, h1, h2]; grind
  mul := fun q r h => by
    have e : rd w (r.map fun x => x * q) x = rd w r x * q := by
      unfold rd
      rw [← sm_mul]
      refine sm_congr w fun j _ => ?_
      rcases Nat.lt_or_ge j r.length with h1 | h1
      · have e : (r.map fun x => x * q)[j]? = some (r.getD j 0 * q) := by rw [List.getElem?_map, get_getD 0 h1]; rfl
        rw [getD_eq e]; grind
      · rw [getD_over (by rw [List.length_map]; exact h1), getD_over h1]; grind
    rw [e, h]; grind

/-! null vectors -/
theorem replicate_getD (w j : Nat) : (List.replicate w (0 : Rat)).getD j 0 = 0 := by
  rcases Nat.lt_or_ge j w with h | h
  · rw [List.getD_eq_getElem?_getD, List.getElem?_replicate, if_pos h]; rfl
  · exact getD_over (by rw [List.length_replicate]; exact h)
theorem rd_replicate (w : Nat) (r : List Rat) (n : Nat) : rd w r (List.replicate n 0) = 0 := sm_zero w fun j _ => by rw [replicate_getD, Rat.mul_zero]
theorem nullTo_other {E : List (List Rat)} {pv : List Nat} {w c j : Nat} (hj : j ≠ c) : ∀ k, (∀ l, l < k → pv.getD l 0 ≠ j) → (nullTo E pv w c k).getD j 0 = 0
  | 0, _ => by rw [nullTo, getD_set, if_neg (fun q => hj q.1.symm), replicate_getD]
  | k + 1, h => by
    rw [nullTo, getD_set, if_neg (fun q => h k (by omega) q.1)]
    exact nullTo_other hj k fun l hl => h l (by omega)
theorem nullTo_own {E : List (List Rat)} {pv : List Nat} {w c : Nat} (hc : c < w) : ∀ k, (∀ l, l < k → pv.getD l 0 ≠ c) → (nullTo E pv w c k).getD c 0 = 1
  | 0, _ => by rw [nullTo, getD_set, if_pos ⟨rfl, by rw [List.length_replicate]; exact hc⟩]
  | k + 1, h => by
    rw [nullTo, getD_set, if_neg (fun q => h k (by omega) q.1)]
    exact nullTo_own hc k fun l hl => h l (by omega)
section
variable {n w : Nat} {E : List (List Rat)} {pv : List Nat} (S : Shp n w E pv w)
include S
theorem Shp.ne {c k : Nat} (hn : c ∉ pv) (hk : k < pv.length) : pv.getD k 0 ≠ c := fun q => hn (by rw [← q]; exact getD_mem hk)
theorem nullTo_row {c i : Nat} (hc : c < w) (hn : c ∉ pv) (hi : i < n) : ∀ k, k ≤ pv.length → rd w (E.getD i []) (nullTo E pv w c k) = if i < k then 0 else en E i c
  | 0, _ => by
    rw [nullTo, rd_set (by simp) hc, rd_replicate, if_neg (by omega), replicate_getD]
    unfold en; grind
  | k + 1, h => by
    have hp := S.lt _ (getD_mem (d := 0) (show k < pv.length by omega))
    rw [nullTo, rd_set (nullTo_len ..) hp, nullTo_row hc hn hi k (by omega), nullTo_other (S.ne hn (by omega)) k fun l hl q => by have := S.inj (by omega) (by omega) q; omega]
    have hu := S.unit k (by omega) i hi
    unfold en at hu ⊢
    rw [hu]
    by_cases e : i = k
    · subst e; rw [if_neg (by omega), if_pos rfl, if_pos (by omega)]; grind
    · rw [if_neg e]
      by_cases e2 : i < k
      · rw [if_pos e2, if_pos (by omega)]; grind
      · rw [if_neg e2, if_neg (by omega)]; grind
theorem nullTo_null {c : Nat} (hc : c < w) (hn : c ∉ pv) : ∀ r ∈ E, rd w r (nullTo E pv w c pv.length) = 0 := by
  intro r hr
  obtain ⟨i, hi⟩ := List.mem_iff_getElem?.mp hr
  have hin : i < n := by rw [← S.rect.1]; exact (List.getElem?_eq_some_iff.mp hi).1
  rw [← getD_eq (d := []) hi, nullTo_row S hc hn hin pv.length (Nat.le_refl _)]
  split
  · rfl
  · exact S.low i (by omega) hin c hc
theorem nullTo_above {c j : Nat} (hn : c ∉ pv) (hj : c < j) : (nullTo E pv w c pv.length).getD j 0 = 0 := by
  by_cases q : j ∈ pv
  · obtain ⟨k, hk, e⟩ := S.idx q
    have key : ∀ l, l ≤ pv.length → (nullTo E pv w c l).getD j 0 = 0 := by
      intro l
      induction l with
      | zero => intro _; rw [nullTo, getD_set, if_neg (by omega), replicate_getD]
      | succ l ih =>
        intro hl
        rw [nullTo, getD_set]
        split
        · rename_i q2
          have := S.left l (by omega) c (by rw [q2.1]; exact hj)
          unfold en at this
          rw [this]; rfl
        · exact ih (by omega)
    exact key _ (Nat.le_refl _)
  · exact nullTo_other (by omega) _ fun l hl => S.ne q hl
end
/-! four-long vectors, projected off one by one -/
structure V4 where
  a : Rat
  b : Rat
  c : Rat
  d : Rat
def ip (x y : V4) : Rat := x.a * y.a + x.b * y.b + x.c * y.c + x.d * y.d
def sb (x : V4) (q : Rat) (y : V4) : V4 := ⟨x.a - q * y.a, x.b - q * y.b, x.c - q * y.c, x.d - q * y.d⟩
def vz : V4 := ⟨0, 0, 0, 0⟩
theorem ip_comm (x y : V4) : ip x y = ip y x := by unfold ip; grind
theorem ip_sb (x y z : V4) (q : Rat) : ip (sb x q y) z = ip x z - q * ip y z := by unfold ip sb; grind
theorem ip_sb' (x y z : V4) (q : Rat) : ip z (sb x q y) = ip z x - q * ip z y := by unfold ip sb; grind
theorem ip_vz (x : V4) : ip vz x = 0 := by unfold ip vz; grind
theorem sq_nn (a : Rat) : 0 ≤ a * a := by
  rcases Rat.le_total (a := 0) (b := a) with h | h
  · exact Rat.mul_nonneg h h
  · have h2 : 0 ≤ -a := by grind
    have := Rat.mul_nonneg h2 h2
    grind
theorem sq_z {a : Rat} (h : a * a = 0) : a = 0 := by
  rcases Rat.mul_eq_zero.mp h with h | h <;> exact h
theorem ip_nn (x : V4) : 0 ≤ ip x x := by
  have h1 := sq_nn x.a
  have h2 := sq_nn x.b
  have h3 := sq_nn x.c
  have h4 := sq_nn x.d
  unfold ip; grind
theorem ip_z {x : V4} (h : ip x x = 0) : x = vz := by
  have h1 := sq_nn x.a
  have h2 := sq_nn x.b
  have h3 := sq_nn x.c
  have h4 := sq_nn x.d
  unfold ip at h
  have e1 : x.a = 0 := sq_z (by grind)
  have e2 : x.b = 0 := sq_z (by grind)
  have e3 : x.c = 0 := sq_z (by grind)
  have e4 : x.d = 0 := sq_z (by grind)
  obtain ⟨a, b, c, d⟩ := x
  simp only [] at e1 e2 e3 e4
  rw [e1, e2, e3, e4]; rfl
theorem ip_all {x : V4} (h : ip x x = 0) (y : V4) : ip x y = 0 := by rw [ip_z h, ip_vz]

def U (v : Nat → V4) : Nat → Nat → V4
  | 0, i => v i
  | c + 1, i => sb (U v c i) (ip (U v c i) (U v c c) / ip (U v c c) (U v c c)) (U v c c)
theorem U_AB (v : Nat → V4) : ∀ c i, (∀ y, (∀ j, j < c → ip (v j) y = 0) → ip (U v c i) y = ip (v i) y) ∧ ∀ j, j < c → ip (v j) (U v c i) = 0
  | 0, i => ⟨fun _ _ => rfl, fun j h => by cases h⟩
  | c + 1, i => by
    obtain ⟨a1, b1⟩ := U_AB v c i
    obtain ⟨a2, b2⟩ := U_AB v c c
    have low : ∀ j, j < c → ip (v j) (U v (c + 1) i) = 0 := fun j hj => by
      rw [U, ip_sb', b1 j hj, b2 j hj]; grind
    refine ⟨fun y hy => ?_, fun j hj => ?_⟩
    · rw [U, ip_sb, a1 y fun j hj => hy j (by omega), a2 y fun j hj => hy j (by omega), hy c (by omega)]; grind
    · rcases Nat.lt_or_ge j c with q | q
      · exact low j q
      · have : j = c := by omega
        subst this
        rw [← a2 _ low, U, ip_sb', ip_comm (U v j j) (U v j i)]
        by_cases z : ip (U v j j) (U v j j) = 0
        · have := ip_all z (U v j i)
          rw [ip_comm] at this
          rw [z, this]; grind
        · rw [Rat.div_mul_cancel z]; grind
/-- x is made of the first c -/
def Sp (v : Nat → V4) (c : Nat) (x : V4) : Prop := ∀ y, (∀ j, j < c → ip (v j) y = 0) → ip x y = 0
theorem Sp.self {v : Nat → V4} {c i : Nat} (h : i < c) : Sp v c (v i) := fun _ hy => hy i h
theorem Sp.sb {v : Nat → V4} {c : Nat} {x y : V4} (hx : Sp v c x) (hy : Sp v c y) (q : Rat) : Sp v c (sb x q y) := fun z hz => by
  rw [ip_sb, hx z hz, hy z hz]; grind
theorem Sp.zero {v : Nat → V4} {c : Nat} : Sp v c vz := fun y _ => ip_vz y
theorem w_zero (v : Nat → V4) (c : Nat) : ip (U v c c) (U v c c) = 0 ↔ Sp v c (v c) := by
  obtain ⟨a, b⟩ := U_AB v c c
  constructor
  · intro h y hy
    rw [← a y hy]; exact ip_all h y
  · intro h
    rw [a _ b]; exact h _ b
def D (v : Nat → V4) : Nat → Rat
  | 0 => 1
  | c + 1 => D v c * ip (U v c c) (U v c c)
theorem D_nn (v : Nat → V4) : ∀ c, 0 ≤ D v c
  | 0 => by rw [D]; decide
  | c + 1 => by rw [D]; exact Rat.mul_nonneg (D_nn v c) (ip_nn _)
theorem D_zero (v : Nat → V4) : ∀ m, D v m = 0 ↔ ∃ d, d < m ∧ Sp v d (v d)
  | 0 => ⟨fun h => absurd h (by rw [D]; decide), fun ⟨d, h, _⟩ => by cases h⟩
  | c + 1 => by
    rw [D, Rat.mul_eq_zero, D_zero v c, w_zero]
    constructor
    · rintro (⟨d, h, s⟩ | s)
      · exact ⟨d, by omega, s⟩
      · exact ⟨c, by omega, s⟩
    · rintro ⟨d, h, s⟩
      rcases Nat.lt_or_ge d c with q | q
      · exact .inl ⟨d, q, s⟩
      · have : d = c := by omega
        subst this; exact .inr s
def res (v : Nat → V4) (x : Nat → Rat) (b : V4) : Nat → V4
  | 0 => b
  | k + 1 => sb (res v x b k) (x k) (v k)
theorem ip_res (v : Nat → V4) (x : Nat → Rat) (b y : V4) : ∀ n, ip (res v x b n) y = ip b y - sm n fun j => x j * ip (v j) y
  | 0 => by rw [res, sm]; grind
  | n + 1 => by rw [res, sm, ip_sb, ip_res v x b y n]; grind
/-- what is left over is the last vector, projected -/
theorem res_U {v : Nat → V4} {x : Nat → Rat} {n : Nat} (h : ∀ j, j < n → ip (v j) (res v x (v n) n) = 0) : res v x (v n) n = U v n n := by
  obtain ⟨a, b⟩ := U_AB v n n
  have hy : ∀ j, j < n → ip (v j) (sb (res v x (v n) n) 1 (U v n n)) = 0 := fun j hj => by
    rw [ip_sb', h j hj, b j hj]; grind
  have e1 := a _ hy
  have e2 : ip (res v x (v n) n) (sb (res v x (v n) n) 1 (U v n n)) = ip (v n) (sb (res v x (v n) n) 1 (U v n n)) := by
    rw [ip_res, sm_zero n fun j hj => by rw [hy j hj, Rat.mul_zero]]; grind
  have e3 : ip (sb (res v x (v n) n) 1 (U v n n)) (sb (res v x (v n) n) 1 (U v n n)) = 0 := by
    rw [ip_sb, e1, e2]; grind
  have e4 := ip_z e3
  unfold sb vz at e4
  injection e4 with h1 h2 h3 h4
  have f1 : (res v x (v n) n).a = (U v n n).a := by grind
  have f2 : (res v x (v n) n).b = (U v n n).b := by grind
  have f3 : (res v x (v n) n).c = (U v n n).c := by grind
  have f4 : (res v x (v n) n).d = (U v n n).d := by grind
  have eta : ∀ z : V4, z = ⟨z.a, z.b, z.c, z.d⟩ := fun _ => rfl
  rw [eta (res v x (v n) n), eta (U v n n), f1, f2, f3, f4]
/-! the determinant's run, on products of vectors -/
def gi (F : List (List Int)) (i j : Nat) : Int := (F.getD i []).getD j 0
theorem dRun_sq {m : Nat} {M : List (List Int)} (h : Sq m M) : ∀ c, Sq m (dRun M c).1
  | 0 => h
  | c + 1 => by
    show Sq m (browsTo _ _ _ _ M.length _ _)
    rw [h.1]; exact (dRun_sq h c).browsTo
theorem gi_step {M : List (List Int)} {c m i j : Nat} (h : Sq m M) (hi : c < i) (hi' : i < m) (hj : c < j) (hj' : j < m) :
    gi (dRun M (c + 1)).1 i j = (gi (dRun M c).1 i j * gi (dRun M c).1 c c - gi (dRun M c).1 i c * gi (dRun M c).1 c j).fdiv (dRun M c).2 := by
  have hs := dRun_sq h c
  have e := browsTo_get (dPrev (dRun M c).1 c) (dRun M c).2 ((dRun M c).1.getD c []) c M.length (M.length - (c + 1)) (dRun M c).1 i
  rw [get_getD [] (show i < (dRun M c).1.length by rw [hs.1]; exact hi'), Option.map_some, h.1, if_pos (by omega)] at e
  have er : (dRun M (c + 1)).1.getD i [] = brow (dPrev (dRun M c).1 c) (dRun M c).2 ((dRun M c).1.getD c []) c m ((dRun M c).1.getD i []) := by
    refine getD_eq ?_
    show (browsTo _ _ _ c M.length (M.length - (c + 1)) _)[i]? = _
    rw [h.1]; exact e
  have hl : ((dRun M c).1.getD i []).length = m := hs.2 _ (getD_mem (by rw [hs.1]; exact hi'))
  have e2 := bcols_get (dPrev (dRun M c).1 c) (dRun M c).2 ((dRun M c).1.getD c []) c (m - (c + 1)) ((dRun M c).1.getD i []) j
  rw [get_getD 0 (show j < ((dRun M c).1.getD i []).length by rw [hl]; exact hj'), Option.map_some, if_pos (by omega)] at e2
  unfold gi
  rw [er, brow, getD_set, if_neg (by omega), getD_eq e2]
  rfl
def m2 (a b c d e f g h k : Int) : Int := k * e * a - k * d * b - g * c * e - h * f * a + h * d * c + g * b * f
theorem m2_fst (a b c d e f g h k : Int) : (k * a - g * c) * (e * a - d * b) - (h * a - g * b) * (f * a - d * c) = a * m2 a b c d e f g h k := by
  unfold m2; grind
theorem m2_snd (a b c p d e f q g h k r s t u v : Int) : m2 a b p d e q s t v * m2 a b c d e f g h k - m2 a b c d e f s t u * m2 a b p d e q g h r =
    (e * a - d * b) * (v * m2 a b c d e f g h k - u * m2 a b p d e q g h r + t * m2 a c p d f q g k r - s * m2 b c p e f q h k r) := by
  unfold m2; grind
theorem dvd_run {M : List (List Int)} {m c i j : Nat} (h : Sq m M) (hm : m ≤ 4) (hp : ∀ d, d < c → 0 < piv M d) (hi : c < i) (hi' : i < m) (hj : c < j) (hj' : j < m) :
    (dRun M c).2 ∣ gi (dRun M c).1 i j * gi (dRun M c).1 c c - gi (dRun M c).1 i c * gi (dRun M c).1 c j := by
  have s1 : ∀ i j, 0 < i → i < m → 0 < j → j < m → gi (dRun M 1).1 i j = gi M i j * gi M 0 0 - gi M i 0 * gi M 0 j := fun i j h1 h2 h3 h4 => by
    rw [gi_step h h1 h2 h3 h4]; show Int.fdiv _ 1 = _; rw [Int.fdiv_one]; rfl
  have q1 : (dRun M 1).2 = gi M 0 0 := rfl
  match c, hp, hi, hj with
  | 0, _, _, _ => exact ⟨_, (Int.one_mul _).symm⟩
  | 1, hp, hi, hj =>
    rw [q1, s1 _ _ (by omega) hi' (by omega) hj', s1 _ _ (by omega) hi' (by omega) (by omega), s1 _ _ (by omega) (by omega) (by omega) hj', s1 _ _ (by omega) (by omega) (by omega) (by omega), m2_fst]
    exact ⟨_, rfl⟩
  | 2, hp, hi, hj =>
    have ei : i = 3 := by omega
    have ej : j = 3 := by omega
    subst ei
    subst ej
    have p0 : (0 : Int) < gi M 0 0 := hp 0 (by omega)
    have s2 : ∀ i j, 1 < i → i < m → 1 < j → j < m → gi (dRun M 2).1 i j = m2 (gi M 0 0) (gi M 0 1) (gi M 0 j) (gi M 1 0) (gi M 1 1) (gi M 1 j) (gi M i 0) (gi M i 1) (gi M i j) := fun i j h1 h2 h3 h4 => by
      rw [gi_step h h1 h2 h3 h4, q1, s1 _ _ (by omega) h2 (by omega) h4, s1 _ _ (by omega) h2 (by omega) (by omega), s1 _ _ (by omega) (by omega) (by omega) h4, s1 _ _ (by omega) (by omega) (by omega) (by omega), m2_fst]
      exact Int.mul_fdiv_cancel_left _ (by omega)
    have q2 : (dRun M 2).2 = gi (dRun M 1).1 1 1 := rfl
    rw [q2, s1 _ _ (by omega) (by omega) (by omega) (by omega), s2 _ _ (by omega) hi' (by omega) hj', s2 _ _ (by omega) hi' (by omega) (by omega), s2 _ _ (by omega) (by omega) (by omega) hj', s2 _ _ (by omega) (by omega) (by omega) (by omega), m2_snd]
    exact ⟨_, rfl⟩
  | c + 3, _, hi, _ => omega
theorem step_alg {P F00 F10 F01 F11 k : Int} {d u w s t : Rat} (hP : (P : Rat) = d) (hd : d ≠ 0) (hw : w ≠ 0) (e : F11 * F00 - F10 * F01 = P * k) (h00 : (F00 : Rat) = d * w) (h10 : (F10 : Rat) = d * s) (h01 : (F01 : Rat) = d * t) (h11 : (F11 : Rat) = d * u) :
    (k : Rat) = d * w * (u - s / w * t) := by
  have e2 : (F11 : Rat) * F00 - F10 * F01 = P * k := by
    rw [← Rat.intCast_mul, ← Rat.intCast_mul, ← Rat.intCast_mul, ← Rat.intCast_sub, e]
  rw [h00, h10, h01, h11, hP] at e2
  have e3 : d * (d * w * u - d * s * t) = d * k := by grind
  have e4 : d * w * u - d * s * t = k := by
    have : d * ((d * w * u - d * s * t) - k) = 0 := by grind
    rcases Rat.mul_eq_zero.mp this with z | z
    · exact absurd z hd
    · grind
  have e5 : s / w * w = s := Rat.div_mul_cancel hw
  grind
theorem bare {M : List (List Int)} {m : Nat} {v : Nat → V4} (h : Sq m M) (hm : m ≤ 4) (hg : ∀ i j, i < m → j < m → (gi M i j : Rat) = ip (v i) (v j)) : ∀ c, c ≤ m → (∀ d, d < c → 0 < piv M d) →
    ((dRun M c).2 : Rat) = D v c ∧ 0 < (dRun M c).2 ∧ ∀ i j, c ≤ i → i < m → c ≤ j → j < m → (gi (dRun M c).1 i j : Rat) = D v c * ip (U v c i) (U v c j)
  | 0, _, _ => ⟨rfl, by show (0 : Int) < 1; decide, fun i j _ h1 _ h2 => by rw [D, Rat.one_mul]; exact hg i j h1 h2⟩
  | c + 1, hc, hp => by
    obtain ⟨h1, h2, h3⟩ := bare h hm hg c (by omega) fun d hd => hp d (by omega)
    have hl : (((dRun M (c + 1)).2 : Int) : Rat) = D v (c + 1) := h3 c c (Nat.le_refl _) (by omega) (Nat.le_refl _) (by omega)
    have hpc : 0 < (dRun M (c + 1)).2 := hp c (by omega)
    refine ⟨hl, hpc, fun i j hi hi' hj hj' => ?_⟩
    obtain ⟨k, hk⟩ := dvd_run h hm (fun d hd => hp d (by omega)) (show c < i by omega) hi' (show c < j by omega) hj'
    rw [gi_step h (by omega) hi' (by omega) hj', hk, Int.mul_fdiv_cancel_left _ (by omega)]
    have hd : D v c ≠ 0 := by
      rw [← h1]; exact fun q => by have := Rat.intCast_eq_zero_iff.mp q; omega
    have hw : ip (U v c c) (U v c c) ≠ 0 := fun q => by
      rw [D, q, Rat.mul_zero] at hl
      have := Rat.intCast_eq_zero_iff.mp hl; omega
    have key := step_alg h1 hd hw hk (h3 c c (Nat.le_refl _) (by omega) (Nat.le_refl _) (by omega)) (h3 i c (by omega) hi' (Nat.le_refl _) (by omega)) (h3 c j (Nat.le_refl _) (by omega) (by omega) hj') (h3 i j (by omega) hi' (by omega) hj')
    rw [key, D, U, U, ip_sb, ip_sb', ip_sb', ip_comm (U v c j) (U v c c)]
    have e5 : ip (U v c i) (U v c c) / ip (U v c c) (U v c c) * ip (U v c c) (U v c c) = ip (U v c i) (U v c c) := Rat.div_mul_cancel hw
    have e6 : ip (U v c c) (U v c j) / ip (U v c c) (U v c c) * ip (U v c c) (U v c c) = ip (U v c c) (U v c j) := Rat.div_mul_cancel hw
    generalize ip (U v c i) (U v c c) / ip (U v c c) (U v c c) = s at *
    generalize ip (U v c c) (U v c j) / ip (U v c c) (U v c c) = t at *
    grind
theorem rpos_of {x : Int} {q : Rat} (h : (x : Rat) = q) (hq : 0 ≤ q) : 0 ≤ x := by
  rw [← h] at hq
  exact Rat.intCast_nonneg.mp hq
theorem good_of {M : List (List Int)} {m : Nat} {v : Nat → V4} (h : Sq m M) (hm : m ≤ 4) (hg : ∀ i j, i < m → j < m → (gi M i j : Rat) = ip (v i) (v j)) : Good M := by
  intro c hc hp
  rw [h.1] at hc
  obtain ⟨h1, h2, h3⟩ := bare h hm hg c (by omega) hp
  have hl : (piv M c : Rat) = D v c * ip (U v c c) (U v c c) := h3 c c (Nat.le_refl _) hc (Nat.le_refl _) hc
  refine ⟨rpos_of hl (Rat.mul_nonneg (D_nn v c) (ip_nn _)), fun e q h4 h5 => ?_⟩
  rw [h.1] at h5
  rw [e] at hl
  have hd : D v c ≠ 0 := by
    rw [← h1]; exact fun q => by have := Rat.intCast_eq_zero_iff.mp q; omega
  have hw : ip (U v c c) (U v c c) = 0 := by
    rcases Rat.mul_eq_zero.mp hl.symm with z | z
    · exact absurd z hd
    · exact z
  have h6 := h3 q c h4 h5 (Nat.le_refl _) hc
  rw [ip_comm, ip_all hw, Rat.mul_zero] at h6
  exact Rat.intCast_eq_zero_iff.mp h6
theorem detV_of {M : List (List Int)} {m : Nat} {v : Nat → V4} (h : Sq m M) (hm : m ≤ 4) (hg : ∀ i j, i < m → j < m → (gi M i j : Rat) = ip (v i) (v j)) : (detV M : Rat) = D v m := by
  unfold detV
  split
  · rename_i hp
    rw [h.1] at hp ⊢
    exact (bare h hm hg m (Nat.le_refl _) hp).1
  · rename_i hn
    have key : ∀ c, c ≤ m → D v c ≠ 0 → ∀ d, d < c → 0 < piv M d := by
      intro c
      induction c with
      | zero => intro _ _ d hd; cases hd
      | succ c ih =>
        intro hc hD
        have hD' : D v c ≠ 0 := fun q => hD (by rw [D, q, Rat.zero_mul])
        have ihc := ih (by omega) hD'
        intro d hd
        rcases Nat.lt_or_ge d c with q | q
        · exact ihc d q
        · have : d = c := by omega
          subst this
          have hl : (piv M d : Rat) = D v (d + 1) := (bare h hm hg d (by omega) ihc).2.2 d d (Nat.le_refl _) (by omega) (Nat.le_refl _) (by omega)
          have h0 := rpos_of hl (D_nn v _)
          have hne : piv M d ≠ 0 := fun q => hD (by rw [← hl, q]; rfl)
          omega
    by_cases z : D v m = 0
    · rw [z]; rfl
    · exact absurd (by rw [h.1]; exact key m (Nat.le_refl _) z) hn
/-! from lists to vectors -/
def vec (c : List Int) : V4 := ⟨((c.getD 0 0 : Int) : Rat), ((c.getD 1 0 : Int) : Rat), ((c.getD 2 0 : Int) : Rat), ((c.getD 3 0 : Int) : Rat)⟩
def vs (cs : List (List Int)) (aim : List Int) (j : Nat) : V4 := vec ((cs ++ [aim]).getD j [])
def sc (t : Rat) (z : V4) : V4 := ⟨t * z.a, t * z.b, t * z.c, t * z.d⟩
theorem four {c : List Int} (h : c.length = 4) : ∃ x y z u, c = [x, y, z, u] := by
  match c, h with
  | [x, y, z, u], _ => exact ⟨x, y, z, u, rfl⟩
theorem dot_vec {c d : List Int} (hc : c.length = 4) (hd : d.length = 4) : (dot c d : Rat) = ip (vec c) (vec d) := by
  obtain ⟨x, y, z, u, rfl⟩ := four hc
  obtain ⟨x', y', z', u', rfl⟩ := four hd
  have e : dot [x, y, z, u] [x', y', z', u'] = x * x' + (y * y' + (z * z' + (u * u' + 0))) := rfl
  have e2 : ip (vec [x, y, z, u]) (vec [x', y', z', u']) = x * x' + y * y' + z * z' + u * u' := rfl
  rw [e, e2, Rat.intCast_add, Rat.intCast_add, Rat.intCast_add, Rat.intCast_add, Rat.intCast_mul, Rat.intCast_mul, Rat.intCast_mul, Rat.intCast_mul]
  have e3 : ((0 : Int) : Rat) = 0 := rfl
  rw [e3]; grind
theorem getD_map' {α β : Type} {f : α → β} {d : α} {l : List α} (i : Nat) : (l.map f).getD i (f d) = f (l.getD i d) := by
  rw [List.getD_eq_getElem?_getD, List.getElem?_map, List.getD_eq_getElem?_getD]
  cases l[i]? <;> rfl
theorem getD_map_lt {α β : Type} {f : α → β} {d : α} {e : β} {l : List α} {i : Nat} (h : i < l.length) : (l.map f).getD i e = f (l.getD i d) := by
  rw [List.getD_eq_getElem?_getD, List.getElem?_map, List.getD_eq_getElem?_getD, List.getElem?_eq_getElem h]; rfl
theorem en_qmat (M : List (List Int)) (i j : Nat) : en (qmat M) i j = (gi M i j : Rat) := by
  have e1 : (qmat M).getD i [] = qrow (M.getD i []) := getD_map' (f := qrow) (d := []) i
  have e2 : (qrow (M.getD i [])).getD j 0 = (((M.getD i []).getD j 0 : Int) : Rat) := getD_map' (f := fun i : Int => (i : Rat)) (d := 0) j
  unfold en gi
  rw [e1, e2]
theorem gi_prods {cs : List (List Int)} {i j : Nat} (hi : i < cs.length) (hj : j < cs.length) : gi (prods cs) i j = dot (cs.getD i []) (cs.getD j []) := by
  unfold gi prods
  rw [getD_map_lt (d := []) hi, getD_map_lt (d := []) hj]
theorem vs_lt {cs : List (List Int)} {aim : List Int} {j : Nat} (h : j < cs.length) : vs cs aim j = vec (cs.getD j []) := by
  rw [vs, List.getD_eq_getElem?_getD, List.getElem?_append_left h, ← List.getD_eq_getElem?_getD]
theorem vs_at {cs : List (List Int)} {aim : List Int} : vs cs aim cs.length = vec aim := by
  rw [vs, List.getD_eq_getElem?_getD, List.getElem?_append_right (Nat.le_refl _), Nat.sub_self]; rfl
theorem gram_ip {cs : List (List Int)} {aim : List Int} (h4 : ∀ c ∈ cs, c.length = 4) {i j : Nat} (hi : i < cs.length) (hj : j < cs.length) : (gi (prods cs) i j : Rat) = ip (vs cs aim i) (vs cs aim j) := by
  rw [gi_prods hi hj, dot_vec (h4 _ (getD_mem hi)) (h4 _ (getD_mem hj)), vs_lt hi, vs_lt hj]
theorem gram_ip' {cs : List (List Int)} {aim : List Int} (h4 : ∀ c ∈ cs, c.length = 4) (ha : aim.length = 4) {i j : Nat} (hi : i < cs.length + 1) (hj : j < cs.length + 1) : (gi (prods (cs ++ [aim])) i j : Rat) = ip (vs cs aim i) (vs cs aim j) := by
  have l : (cs ++ [aim]).length = cs.length + 1 := by simp
  have h4' : ∀ c ∈ cs ++ [aim], c.length = 4 := fun c hc => by
    rcases List.mem_append.mp hc with q | q
    · exact h4 c q
    · rw [List.mem_singleton.mp q]; exact ha
  rw [gi_prods (by omega) (by omega), dot_vec (h4' _ (getD_mem (by omega))) (h4' _ (getD_mem (by omega)))]; rfl

/-! what is left over -/
theorem dvd_foldl : ∀ (qs : List Rat) (t : Int), t ∣ qs.foldl (fun t q => t * (q.den : Int)) t
  | [], t => ⟨1, (Int.mul_one t).symm⟩
  | q :: qs, t => Int.dvd_trans ⟨(q.den : Int), rfl⟩ (dvd_foldl qs (t * (q.den : Int)))
theorem den_dvd : ∀ (qs : List Rat) (t : Int), ∀ q ∈ qs, (q.den : Int) ∣ qs.foldl (fun t q => t * (q.den : Int)) t
  | p :: qs, t, q, h => by
    rcases List.mem_cons.mp h with e | e
    · subst e
      exact Int.dvd_trans ⟨t, Int.mul_comm _ _⟩ (dvd_foldl qs (t * (q.den : Int)))
    · exact den_dvd qs _ q e
theorem share_rat {qs : List Rat} {q : Rat} (h : q ∈ qs) : (shareOf (prodDen qs) q : Rat) = (prodDen qs : Rat) * q := by
  obtain ⟨k, hk⟩ := den_dvd qs 1 q h
  have hk : prodDen qs = (q.den : Int) * k := hk
  have hd : (q.den : Int) ≠ 0 := by have := q.den_pos; omega
  rw [shareOf, hk, Int.mul_fdiv_cancel_left _ hd, Rat.intCast_mul, Rat.intCast_mul]
  have hd2 : (q.den : Rat) ≠ 0 := fun z => by
    rw [← Rat.intCast_natCast] at z
    exact hd (Rat.intCast_eq_zero_iff.mp z)
  have e0 : (q.num : Rat) / (q.den : Rat) = q := by rw [← Rat.mkRat_eq_div]; exact Rat.mkRat_self q
  have : q * (q.den : Rat) = q.num := by
    have e1 : (q.num : Rat) / (q.den : Rat) * (q.den : Rat) = q.num := Rat.div_mul_cancel hd2
    rwa [e0] at e1
  have e : (((q.den : Nat) : Int) : Rat) = (q.den : Rat) := Rat.intCast_natCast q.den
  rw [e]
  grind
theorem zip_getD {f : Int → Int → Int} {l c : List Int} {i : Nat} (hl : l.length = 4) (hc : c.length = 4) (hi : i < 4) : (List.zipWith f l c).getD i 0 = f (l.getD i 0) (c.getD i 0) := by
  refine getD_eq ?_
  rw [List.getElem?_zipWith, get_getD 0 (show i < l.length by omega), get_getD 0 (show i < c.length by omega)]
theorem vec_step {l c : List Int} (hl : l.length = 4) (hc : c.length = 4) (share : Int) : vec (restStep l c share) = sb (vec l) share (vec c) := by
  unfold vec restStep sb
  simp only []
  rw [zip_getD hl hc (by decide), zip_getD hl hc (by decide), zip_getD hl hc (by decide), zip_getD hl hc (by decide)]
  rw [Rat.intCast_sub, Rat.intCast_mul, Rat.intCast_sub, Rat.intCast_mul, Rat.intCast_sub, Rat.intCast_mul, Rat.intCast_sub, Rat.intCast_mul]
theorem vec_map {l : List Int} (hl : l.length = 4) (t : Int) : vec (l.map fun x => t * x) = sc t (vec l) := by
  obtain ⟨x, y, z, u, rfl⟩ := four hl
  have e : vec ([x, y, z, u].map fun x => t * x) = ⟨((t * x : Int) : Rat), ((t * y : Int) : Rat), ((t * z : Int) : Rat), ((t * u : Int) : Rat)⟩ := rfl
  rw [e, Rat.intCast_mul, Rat.intCast_mul, Rat.intCast_mul, Rat.intCast_mul]; rfl
theorem sb_sc (x y : V4) (t q : Rat) : sb (sc t x) (t * q) y = sc t (sb x q y) := by
  unfold sb sc
  simp only []
  congr 1 <;> grind
theorem vec_rest {cs : List (List Int)} {qs : List Rat} {aim b : List Int} (h4 : ∀ c ∈ cs, c.length = 4) (hb : b.length = 4) (hq : qs.length = cs.length) :
    ∀ k, k ≤ cs.length → vec (restTo cs qs b k) = sc (prodDen qs) (res (vs cs aim) (fun j => qs.getD j 0) (vec b) k)
  | 0, _ => by rw [restTo, vec_map hb]; rfl
  | k + 1, h => by
    rw [restTo, vec_step (restTo_len h4 hb k (by omega)) (h4 _ (getD_mem (by omega))), vec_rest (aim := aim) h4 hb hq k (by omega), share_rat (getD_mem (by omega)), sb_sc, res, vs_lt (by omega)]
theorem ip_sc (t : Rat) (x y : V4) : ip (sc t x) y = t * ip x y := by unfold ip sc; grind
theorem ip_sc' (t : Rat) (x y : V4) : ip x (sc t y) = t * ip x y := by unfold ip sc; grind

/-! pivots -/
theorem cl_rows (v : Nat → V4) (w : Nat) {C : V4 → Prop} (hC : ∀ x y q, C x → C y → C (sb x q y)) (hz : C vz) : Cl fun r => ∃ y, C y ∧ ∀ j, j < w → r.getD j 0 = ip y (v j) where
  sub := fun q r p ⟨y, cy, hy⟩ ⟨z, cz, hz⟩ hl => ⟨sb y q z, hC y z q cy cz, fun j hj => by rw [rowSub_getD hl, hy j hj, hz j hj, ip_sb]⟩
  mul := fun q r ⟨y, cy, hy⟩ => ⟨sb vz (-q) y, hC _ _ _ hz cy, fun j hj => by
    have e : (r.map fun x => x * q).getD j 0 = r.getD j 0 * q := by
      rcases Nat.lt_or_ge j r.length with h1 | h1
      · exact getD_map_lt h1
      · rw [getD_over (by rw [List.length_map]; exact h1), getD_over h1]; grind
    rw [e, hy j hj, ip_sb, ip_vz]; grind⟩
theorem ech_shp {M : List (List Rat)} {n w : Nat} (R : Rect n w M) (hw : wd M = w) : Shp n w (ech M).1 (ech M).2 w := by
  rw [ech, hw]; exact shp R w
theorem sm_one {f : Nat → Rat} {n c : Nat} (hc : c < n) (h : ∀ j, j ≠ c → j < n → f j = 0) : sm n f = f c := by
  have e : sm n f = sm n fun j => if j = c then f c else 0 := sm_congr n fun j hj => by
    by_cases q : j = c
    · rw [q, if_pos rfl]
    · rw [if_neg q, h j q hj]
  rw [e, sm_upd (f := fun _ => 0) (p := c) (fun j hj => if_neg hj), if_pos hc, if_pos rfl, sm_zero n fun _ _ => rfl]
  grind
theorem pivot_iff {M : List (List Rat)} {n w : Nat} {v : Nat → V4} (R : Rect n w M) (hw : wd M = w) (hrow : ∀ r ∈ M, ∃ y, True ∧ ∀ j, j < w → r.getD j 0 = ip y (v j))
    (hnull : ∀ x : List Rat, (∀ r ∈ M, rd w r x = 0) → res v (fun j => x.getD j 0) vz w = vz) {c : Nat} (hc : c < w) : c ∈ (ech M).2 ↔ ¬ Sp v c (v c) := by
  have S := ech_shp R hw
  constructor
  · intro h hs
    obtain ⟨k, hk, e⟩ := S.idx h
    have hkn : k < n := by have := S.le; omega
    have := echTo_all (cl_rows v w (C := fun _ => True) (fun _ _ _ _ _ => trivial) trivial) R hrow (wd M) _ (getD_mem (d := []) (show k < (echTo M (wd M)).1.length by rw [(echTo_rect R _).1]; exact hkn))
    obtain ⟨y, _, hy⟩ := this
    have h1 := S.unit k hk k hkn
    rw [e, if_pos rfl] at h1
    have h2 := hy c hc
    have h3 : ip y (v c) = 1 := by rw [← h2]; exact h1
    have h4 := hs y fun j hj => by
      rw [ip_comm, ← hy j (by omega)]
      exact S.left k hk j (by rw [e]; exact hj)
    rw [ip_comm, h3] at h4
    exact absurd h4 (by decide)
  · intro h
    refine Classical.byContradiction fun hn => h ?_
    have hx := hnull (nullTo (ech M).1 (ech M).2 w c (ech M).2.length) (echTo_all_rev (rd_cl w _) R (wd M) (nullTo_null S hc hn))
    intro y hy
    have e := ip_res v (fun j => (nullTo (ech M).1 (ech M).2 w c (ech M).2.length).getD j 0) vz y w
    rw [hx, ip_vz, sm_one hc ?_, nullTo_own hc _ fun l hl => S.ne hn hl] at e
    · grind
    · intro j hj hjw
      rcases Nat.lt_or_ge j c with q | q
      · rw [hy j q, Rat.mul_zero]
      · rw [nullTo_above S hn (by omega), Rat.zero_mul]
theorem pv_same {M N : List (List Rat)} {n m w : Nat} (R : Rect n w M) (R' : Rect m w N) (hw : wd M = w) (hw' : wd N = w) (h : ∀ c, c < w → (c ∈ (ech M).2 ↔ c ∈ (ech N).2)) : (ech M).2 = (ech N).2 := by
  refine (ech_shp R hw).all.trans (Eq.trans (List.filter_congr fun d hd => ?_) (ech_shp R' hw').all.symm)
  exact decide_eq_decide.mpr (h d (List.mem_range.mp hd))

/-! solving -/
theorem solTo_other {E : List (List Rat)} {pv : List Nat} {w j : Nat} : ∀ k, (∀ l, l < k → pv.getD l 0 ≠ j) → (solTo E pv w k).getD j 0 = 0
  | 0, _ => by rw [solTo, replicate_getD]
  | k + 1, h => by
    rw [solTo, getD_set, if_neg (fun q => h k (by omega) q.1)]
    exact solTo_other k fun l hl => h l (by omega)
theorem solTo_row {n w : Nat} {E : List (List Rat)} {pv : List Nat} (S : Shp n (w + 1) E pv (w + 1)) (hn : w ∉ pv) {i : Nat} (hi : i < n) : ∀ k, k ≤ pv.length → rd w (E.getD i []) (solTo E pv w k) = if i < k then en E i w else 0
  | 0, _ => by rw [solTo, rd_replicate, if_neg (by omega)]
  | k + 1, h => by
    have hp := S.lt _ (getD_mem (d := 0) (show k < pv.length by omega))
    have hp2 := S.ne hn (show k < pv.length by omega)
    rw [solTo, rd_set (solTo_len ..) (by omega), solTo_row S hn hi k (by omega), solTo_other k fun l hl q => by have := S.inj (by omega) (by omega) q; omega]
    have hu := S.unit k (by omega) i hi
    unfold en at hu ⊢
    rw [hu]
    by_cases e : i = k
    · subst e; rw [if_neg (by omega), if_pos rfl, if_pos (by omega)]; grind
    · rw [if_neg e]
      by_cases e2 : i < k
      · rw [if_pos e2, if_pos (by omega)]; grind
      · rw [if_neg e2, if_neg (by omega)]; grind
theorem rd_congr {w : Nat} {r r' x x' : List Rat} (h : ∀ j, j < w → r.getD j 0 = r'.getD j 0) (h2 : ∀ j, j < w → x.getD j 0 = x'.getD j 0) : rd w r x = rd w r' x' :=
  sm_congr w fun j hj => by rw [h j hj, h2 j hj]
theorem sol_solves {M : List (List Rat)} {b : List Rat} {n w : Nat} (R : Rect n (w + 1) (aug M b)) (hw : wd (aug M b) = w + 1) (hm : wd M = w) (hn : w ∉ (ech (aug M b)).2) : ∀ r ∈ aug M b, rd w r (sol M b) = r.getD w 0 := by
  have S := ech_shp R hw
  have key : ∀ r, rd (w + 1) r (sol M b ++ [-1]) = rd w r (sol M b) - r.getD w 0 := fun r => by
    have l : (sol M b).length = w := by rw [sol_len, hm]
    have e1 : (sol M b ++ [-1]).getD w 0 = -1 := by
      rw [List.getD_eq_getElem?_getD, List.getElem?_append_right (by omega), l, Nat.sub_self]; rfl
    have e2 : sm w (fun j => r.getD j 0 * (sol M b ++ [-1]).getD j 0) = rd w r (sol M b) := sm_congr w fun j hj => by
      rw [List.getD_eq_getElem?_getD (l := sol M b ++ [-1]), List.getElem?_append_left (by omega), ← List.getD_eq_getElem?_getD]
    rw [rd, sm, e1, e2]; grind
  intro r hr
  have := echTo_all_rev (rd_cl (w + 1) (sol M b ++ [-1])) R (wd (aug M b)) (fun r hr => by
    rw [key]
    obtain ⟨i, hi⟩ := List.mem_iff_getElem?.mp hr
    have hin : i < n := by rw [← S.rect.1]; exact (List.getElem?_eq_some_iff.mp hi).1
    have h1 := solTo_row S hn hin (ech (aug M b)).2.length (Nat.le_refl _)
    have e3 : rd w r (sol M b) = if i < (ech (aug M b)).2.length then en (ech (aug M b)).1 i w else 0 := by
      rw [← h1, sol, hm]
      have e4 : (ech (aug M b)).1.getD i [] = r := getD_eq hi
      rw [e4]
    have e5 : r.getD w 0 = en (ech (aug M b)).1 i w := by
      have e4 : (ech (aug M b)).1.getD i [] = r := getD_eq hi
      rw [en, e4]
    rw [e3, e5]
    by_cases q : i < (ech (aug M b)).2.length
    · rw [if_pos q]; grind
    · rw [if_neg q, S.low i (by omega) hin w (by omega)]; grind) r hr
  rw [key] at this
  grind
theorem mem_qmat {M : List (List Int)} {r : List Rat} (h : r ∈ qmat M) : ∃ i, i < M.length ∧ ∀ j, r.getD j 0 = (gi M i j : Rat) := by
  obtain ⟨i, hi⟩ := List.mem_iff_getElem?.mp h
  refine ⟨i, ?_, fun j => ?_⟩
  · have := (List.getElem?_eq_some_iff.mp hi).1
    rw [qmat, List.length_map] at this; exact this
  · rw [← en_qmat, en, getD_eq hi]
theorem qmat_mem {M : List (List Int)} {i : Nat} (h : i < M.length) : (qmat M).getD i [] ∈ qmat M := getD_mem (by rw [qmat, List.length_map]; exact h)

/-- the columns and the aim -/
structure Base4 (n : Nat) (cs : List (List Int)) (aim : List Int) : Prop where
  len : cs.length = n
  pos : 0 < n
  le : n ≤ 3
  rows : ∀ c ∈ cs, c.length = 4
  alen : aim.length = 4
section
variable {n : Nat} {cs : List (List Int)} {aim : List Int} (X : Base4 n cs aim)
include X
theorem Base4.sq : Sq n (prods cs) := by
  have := prods_sq cs
  rwa [X.len] at this
theorem Base4.R : Rect n n (qmat (prods cs)) := qmat_rect X.sq.1 X.sq.2
theorem Base4.w : wd (qmat (prods cs)) = n := wd_rect X.R X.pos
theorem Base4.g {i j : Nat} (hi : i < n) (hj : j < n) : (gi (prods cs) i j : Rat) = ip (vs cs aim i) (vs cs aim j) := gram_ip X.rows (by rw [X.len]; exact hi) (by rw [X.len]; exact hj)
theorem Base4.vn : vs cs aim n = vec aim := by rw [← X.len]; exact vs_at
theorem Base4.Rt : Rect 4 n (qmat (transp cs 4)) := qmat_rect (by simp [transp]) fun r hr => by
  obtain ⟨i, _, rfl⟩ := List.mem_map.mp hr
  rw [List.length_map]; exact X.len
theorem Base4.wt : wd (qmat (transp cs 4)) = n := wd_rect X.Rt (by decide)
theorem Base4.rl : (rights cs aim).length = n := by rw [rights, List.length_map]; exact X.len
theorem Base4.Ra : Rect n (n + 1) (aug (qmat (prods cs)) (qrow (rights cs aim))) := aug_rect X.R (by rw [qrow, List.length_map]; exact X.rl)
theorem Base4.wa : wd (aug (qmat (prods cs)) (qrow (rights cs aim))) = n + 1 := wd_rect X.Ra X.pos
/-- null numbers of the products make nothing -/
theorem Base4.nullG (x : List Rat) (h : ∀ r ∈ qmat (prods cs), rd n r x = 0) : res (vs cs aim) (fun j => x.getD j 0) vz n = vz := by
  have key : ∀ j, j < n → ip (vs cs aim j) (res (vs cs aim) (fun j => x.getD j 0) vz n) = 0 := fun j hj => by
    have h1 := h _ (qmat_mem (M := prods cs) (i := j) (by rw [X.sq.1]; exact hj))
    rw [ip_comm, ip_res, ip_vz]
    have e : sm n (fun l => x.getD l 0 * ip (vs cs aim l) (vs cs aim j)) = rd n ((qmat (prods cs)).getD j []) x := sm_congr n fun l hl => by
      have e2 : ((qmat (prods cs)).getD j []).getD l 0 = ip (vs cs aim j) (vs cs aim l) := by
        rw [← X.g hj hl, ← en_qmat]; rfl
      rw [e2, ip_comm (vs cs aim j), Rat.mul_comm]
    rw [e, h1]; grind
  refine ip_z ?_
  rw [ip_res, ip_vz, sm_zero n fun j hj => by rw [key j hj, Rat.mul_zero]]
  grind
theorem Base4.rowG : ∀ r ∈ qmat (prods cs), ∃ y, True ∧ ∀ j, j < n → r.getD j 0 = ip y (vs cs aim j) := fun r hr => by
  obtain ⟨i, hi, e⟩ := mem_qmat hr
  rw [X.sq.1] at hi
  exact ⟨_, trivial, fun j hj => by rw [e j, X.g hi hj]⟩
theorem Base4.gi_t {i j : Nat} (hi : i < 4) (hj : j < n) : gi (transp cs 4) i j = (cs.getD j []).getD i 0 := by
  have e1 : (transp cs 4).getD i [] = cs.map fun c => c.getD i 0 := by
    have e0 := getD_map_lt (f := fun at' => cs.map fun c => c.getD at' 0) (d := 0) (e := []) (l := List.range 4) (i := i) (by rw [List.length_range]; exact hi)
    have e2 : (List.range 4).getD i 0 = i := getD_eq (List.getElem?_range hi)
    rw [e2] at e0
    exact e0
  unfold gi
  rw [e1]
  exact getD_map_lt (by rw [X.len]; exact hj)
theorem Base4.rowT : ∀ r ∈ qmat (transp cs 4), ∃ y, True ∧ ∀ j, j < n → r.getD j 0 = ip y (vs cs aim j) := fun r hr => by
  obtain ⟨i, hi, e⟩ := mem_qmat hr
  have hi : i < 4 := by rw [transp, List.length_map, List.length_range] at hi; exact hi
  refine ⟨⟨if i = 0 then 1 else 0, if i = 1 then 1 else 0, if i = 2 then 1 else 0, if i = 3 then 1 else 0⟩, trivial, fun j hj => ?_⟩
  rw [e j, X.gi_t hi hj, vs_lt (by rw [X.len]; exact hj)]
  unfold ip vec
  match i, hi with
  | 0, _ => simp only [reduceIte, Nat.reduceEqDiff]; grind
  | 1, _ => simp only [reduceIte, Nat.reduceEqDiff]; grind
  | 2, _ => simp only [reduceIte, Nat.reduceEqDiff]; grind
  | 3, _ => simp only [reduceIte, Nat.reduceEqDiff]; grind
theorem res_part (v : Nat → V4) (x : Nat → Rat) (f : V4 → Rat) (hf : ∀ a q b, f (sb a q b) = f a - q * f b) (b : V4) : ∀ n, f (res v x b n) = f b - sm n fun j => x j * f (v j)
  | 0 => by rw [res, sm]; grind
  | n + 1 => by rw [res, sm, hf, res_part v x f hf b n]; grind
theorem Base4.nullT (x : List Rat) (h : ∀ r ∈ qmat (transp cs 4), rd n r x = 0) : res (vs cs aim) (fun j => x.getD j 0) vz n = vz := by
  have key : ∀ (f : V4 → Rat) (i : Nat), i < 4 → (∀ a q b, f (sb a q b) = f a - q * f b) → f vz = 0 → (∀ c, f (vec c) = ((c.getD i 0 : Int) : Rat)) → f (res (vs cs aim) (fun j => x.getD j 0) vz n) = 0 := fun f i hi hf hz hv => by
    have h1 := h _ (qmat_mem (M := transp cs 4) (i := i) (by rw [transp, List.length_map, List.length_range]; exact hi))
    rw [res_part X _ _ f hf, hz]
    have e : sm n (fun l => x.getD l 0 * f (vs cs aim l)) = rd n ((qmat (transp cs 4)).getD i []) x := sm_congr n fun l hl => by
      have e2 : ((qmat (transp cs 4)).getD i []).getD l 0 = f (vs cs aim l) := by
        rw [vs_lt (by rw [X.len]; exact hl), hv, ← X.gi_t hi hl, ← en_qmat]; rfl
      rw [e2, Rat.mul_comm]
    rw [e, h1]; grind
  have h0 := key (fun z => z.a) 0 (by decide) (fun _ _ _ => rfl) rfl fun _ => rfl
  have h1 := key (fun z => z.b) 1 (by decide) (fun _ _ _ => rfl) rfl fun _ => rfl
  have h2 := key (fun z => z.c) 2 (by decide) (fun _ _ _ => rfl) rfl fun _ => rfl
  have h3 := key (fun z => z.d) 3 (by decide) (fun _ _ _ => rfl) rfl fun _ => rfl
  have eta : ∀ z : V4, z.a = 0 → z.b = 0 → z.c = 0 → z.d = 0 → z = vz := fun z e0 e1 e2 e3 => by
    obtain ⟨a, b, c, d⟩ := z
    cases e0; cases e1; cases e2; cases e3; rfl
  exact eta _ h0 h1 h2 h3
theorem Base4.pivG {c : Nat} (hc : c < n) : c ∈ (ech (qmat (prods cs))).2 ↔ ¬ Sp (vs cs aim) c (vs cs aim c) := pivot_iff X.R X.w X.rowG X.nullG hc
theorem Base4.pivT {c : Nat} (hc : c < n) : c ∈ (ech (qmat (transp cs 4))).2 ↔ ¬ Sp (vs cs aim) c (vs cs aim c) := pivot_iff X.Rt X.wt X.rowT X.nullT hc
theorem Base4.same : (ech (qmat (transp cs 4))).2 = (ech (qmat (prods cs))).2 := pv_same X.Rt X.R X.wt X.w fun c hc => by rw [X.pivT hc, X.pivG hc]
theorem Base4.aug_row {r : List Rat} (h : r ∈ aug (qmat (prods cs)) (qrow (rights cs aim))) : ∃ i, i < n ∧ ∀ j, j < n + 1 → r.getD j 0 = ip (vs cs aim i) (vs cs aim j) := by
  obtain ⟨i, hi⟩ := List.mem_iff_getElem?.mp h
  obtain ⟨r', x, h1, h2, rfl⟩ := aug_inv hi
  have hin : i < n := by rw [← X.R.1]; exact (List.getElem?_eq_some_iff.mp h1).1
  have hl : r'.length = n := X.R.2 _ (List.mem_of_getElem? h1)
  refine ⟨i, hin, fun j hj => ?_⟩
  rcases Nat.lt_or_ge j n with q | q
  · rw [List.getD_eq_getElem?_getD, List.getElem?_append_left (by omega), ← List.getD_eq_getElem?_getD, ← X.g hin q, ← en_qmat, en, getD_eq h1]
  · have : j = n := by omega
    subst this
    rw [List.getD_eq_getElem?_getD, List.getElem?_append_right (by omega), hl, Nat.sub_self]
    show x = _
    have hc : i < cs.length := by rw [X.len]; exact hin
    have e1 : x = (((rights cs aim).getD i 0 : Int) : Rat) := by
      rw [← getD_eq (d := 0) h2]
      exact getD_map' (f := fun i : Int => (i : Rat)) (d := 0) i
    have e2 : (rights cs aim).getD i 0 = dot (cs.getD i []) aim := getD_map_lt hc
    rw [e1, e2, dot_vec (X.rows _ (getD_mem hc)) X.alen, X.vn, vs_lt hc]
theorem Base4.row_aug {i : Nat} (hi : i < n) : ∃ r ∈ aug (qmat (prods cs)) (qrow (rights cs aim)), ∀ j, j < n + 1 → r.getD j 0 = ip (vs cs aim i) (vs cs aim j) := by
  have hc : i < cs.length := by rw [X.len]; exact hi
  have h1 := get_getD (α := List Rat) [] (show i < (qmat (prods cs)).length by rw [X.R.1]; exact hi)
  have h2 := get_getD (α := Rat) 0 (show i < (qrow (rights cs aim)).length by rw [qrow, List.length_map, X.rl]; exact hi)
  have h3 := aug_get h1 h2
  refine ⟨_, List.mem_of_getElem? h3, fun j hj => ?_⟩
  have hl : ((qmat (prods cs)).getD i []).length = n := X.R.2 _ (List.mem_of_getElem? h1)
  rcases Nat.lt_or_ge j n with q | q
  · rw [List.getD_eq_getElem?_getD, List.getElem?_append_left (by omega), ← List.getD_eq_getElem?_getD, ← X.g hi q, ← en_qmat]; rfl
  · have : j = n := by omega
    subst this
    rw [List.getD_eq_getElem?_getD, List.getElem?_append_right (by omega), hl, Nat.sub_self]
    show (qrow (rights cs aim)).getD i 0 = _
    have e1 : (qrow (rights cs aim)).getD i 0 = (((rights cs aim).getD i 0 : Int) : Rat) := getD_map' (f := fun i : Int => (i : Rat)) (d := 0) i
    have e2 : (rights cs aim).getD i 0 = dot (cs.getD i []) aim := getD_map_lt hc
    rw [e1, e2, dot_vec (X.rows _ (getD_mem hc)) X.alen, X.vn, vs_lt hc]
theorem Base4.solv : n ∉ (ech (aug (qmat (prods cs)) (qrow (rights cs aim)))).2 := by
  intro h
  have S := ech_shp X.Ra X.wa
  obtain ⟨k, hk, e⟩ := S.idx h
  have hkn : k < n := by have := S.le; omega
  have hC := cl_rows (vs cs aim) (n + 1) (C := Sp (vs cs aim) n) (fun x y q hx hy => hx.sb hy q) Sp.zero
  have hall := echTo_all hC X.Ra (fun r hr => by
    obtain ⟨i, hi, hr⟩ := X.aug_row hr
    exact ⟨_, Sp.self hi, hr⟩) (wd (aug (qmat (prods cs)) (qrow (rights cs aim)))) _ (getD_mem (d := []) (show k < (echTo _ (wd _)).1.length by rw [(echTo_rect X.Ra _).1]; exact hkn))
  obtain ⟨y, sy, hy⟩ := hall
  have h1 := S.unit k hk k hkn
  rw [e, if_pos rfl] at h1
  have h3 : ip y (vs cs aim n) = 1 := by rw [← hy n (by omega)]; exact h1
  have h4 := sy y fun j hj => by
    rw [ip_comm, ← hy j (by omega)]
    exact S.left k hk j (by rw [e]; exact hj)
  rw [ip_all h4] at h3
  exact absurd h3 (by decide)
/-- what is left over, as a vector -/
theorem Base4.left : ∃ ρ : V4, vec (leftOf cs aim) = sc (prodDen (qsol cs aim)) ρ ∧ (∀ j, j < n → ip (vs cs aim j) ρ = 0) ∧ Sp (vs cs aim) n (sb (vs cs aim n) 1 ρ) ∧ ρ = U (vs cs aim) n n := by
  have ql : (qsol cs aim).length = cs.length := by rw [qsol, sol_len, X.w, X.len]
  have hp : ∀ j, j < n → ip (vs cs aim j) (res (vs cs aim) (fun j => (qsol cs aim).getD j 0) (vs cs aim n) n) = 0 := fun j hj => by
    obtain ⟨r, hr, er⟩ := X.row_aug hj
    have hs := sol_solves X.Ra X.wa X.w X.solv r hr
    rw [ip_comm, ip_res, ip_comm, ← er n (by omega), ← hs]
    have e : sm n (fun l => (qsol cs aim).getD l 0 * ip (vs cs aim l) (vs cs aim j)) = rd n r (qsol cs aim) := sm_congr n fun l hl => by
      rw [er l (by omega), ip_comm (vs cs aim j), Rat.mul_comm]
    rw [e]; unfold qsol; grind
  refine ⟨_, ?_, hp, fun y hy => ?_, res_U hp⟩
  · rw [leftOf, rest, vec_rest (aim := aim) X.rows X.alen ql _ (Nat.le_refl _), X.vn, X.len]
  · rw [ip_sb, ip_res, sm_zero n fun j hj => by rw [hy j hj, Rat.mul_zero]]; grind
theorem Base4.leftLen : (leftOf cs aim).length = 4 := restTo_len X.rows X.alen _ (Nat.le_refl _)
theorem Base4.detV : (detV (prods cs) : Rat) = D (vs cs aim) n := detV_of X.sq (by have := X.le; omega) fun _ _ hi hj => X.g hi hj
theorem Base4.sq' : Sq (n + 1) (prods (cs ++ [aim])) := by
  have := prods_sq (cs ++ [aim])
  rwa [List.length_append, X.len] at this
theorem Base4.g' {i j : Nat} (hi : i < n + 1) (hj : j < n + 1) : (gi (prods (cs ++ [aim])) i j : Rat) = ip (vs cs aim i) (vs cs aim j) := gram_ip' X.rows X.alen (by rw [X.len]; exact hi) (by rw [X.len]; exact hj)
theorem Base4.wide : (wideOf cs aim : Rat) = D (vs cs aim) n * ip (U (vs cs aim) n n) (U (vs cs aim) n n) := detV_of X.sq' (by have := X.le; omega) fun _ _ hi hj => X.g' hi hj
theorem Base4.gm {k : Nat} (hk : k ≤ n) {i j : Nat} (hi : i < k) (hj : j < k) : (gi (minor (prods cs) k) i j : Rat) = ip (vs cs aim i) (vs cs aim j) := by
  have e1 : (minor (prods cs) k).getD i [] = ((prods cs).getD i []).take k := by
    have h0 : i < (List.take k (prods cs)).length := by rw [List.length_take, X.sq.1]; omega
    have := getD_map_lt (f := fun r : List Int => r.take k) (d := []) (e := []) h0
    rw [minor, this, List.getD_eq_getElem?_getD (l := List.take k _), List.getElem?_take_of_lt hi, ← List.getD_eq_getElem?_getD]
  have e2 : gi (minor (prods cs) k) i j = gi (prods cs) i j := by
    unfold gi
    rw [e1, List.getD_eq_getElem?_getD (l := List.take k _), List.getElem?_take_of_lt hj, ← List.getD_eq_getElem?_getD]
  rw [e2, X.g (by omega) (by omega)]
end
theorem rat_inj {x y : Int} (h : (x : Rat) = y) : x = y := Rat.intCast_inj.mp h
theorem ip_le {ρ b : V4} (h : ip (sb b 1 ρ) ρ = 0) : ip ρ ρ ≤ ip b b ∧ (ip ρ ρ = ip b b → ip (sb b 1 ρ) (sb b 1 ρ) = 0) := by
  have h2 := ip_nn (sb b 1 ρ)
  have e : ip (sb b 1 ρ) (sb b 1 ρ) = ip b b - ip ρ ρ := by
    rw [ip_sb] at h
    rw [ip_sb, ip_sb', ip_sb', ip_comm ρ b]; grind
  rw [e] at h2 ⊢
  exact ⟨by grind, fun q => by rw [q]; grind⟩
theorem fine_of {n : Nat} {cs : List (List Int)} {aim : List Int} (X : Base4 n cs aim) (hs : SmM 3 cs) (hsa : ∀ x ∈ aim, Sm 3 x) : Fine n cs aim := by
  obtain ⟨ρ, hl, hp, hspan, hU⟩ := X.left
  have S := ech_shp X.R X.w
  have hdet := X.detV
  have hwide := X.wide
  rw [← hU, ← hdet] at hwide
  have hll := X.leftLen
  have hdd : (dot (leftOf cs aim) (leftOf cs aim) : Rat) = prodDen (qsol cs aim) * prodDen (qsol cs aim) * ip ρ ρ := by
    rw [dot_vec hll hll, hl, ip_sc, ip_sc']; grind
  have haa : (dot aim aim : Rat) = ip (vs cs aim n) (vs cs aim n) := by rw [dot_vec X.alen X.alen, X.vn]
  have hnull : ∀ c, c < n → (Sp (vs cs aim) c (vs cs aim c) ↔ c ∉ (ech (qmat (prods cs))).2) := fun c hc => by
    rw [X.pivG hc]; exact Classical.not_not.symm
  have hfree : detV (prods cs) = 0 ↔ nullBase (qmat (prods cs)) ≠ [] := by
    have h1 : detV (prods cs) = 0 ↔ D (vs cs aim) n = 0 := by
      rw [← hdet]; exact Rat.intCast_eq_zero_iff.symm
    rw [h1, D_zero, nullBase, nullBaseTo, X.w, Ne, List.map_eq_nil_iff, List.filter_eq_nil_iff]
    constructor
    · rintro ⟨d, hd, sd⟩ q
      exact q d (List.mem_range.mpr hd) (decide_eq_true ((hnull d hd).mp sd))
    · intro q
      refine Classical.byContradiction fun hn => q fun d hd hd2 => hn ⟨d, List.mem_range.mp hd, ?_⟩
      exact (hnull d (List.mem_range.mp hd)).mpr (of_decide_eq_true hd2)
  have hrho := ip_le (hspan ρ hp)
  have hD := D_nn (vs cs aim) n
  rw [← hdet] at hD
  have hrights : ∀ j, j < n → (((rights cs aim).getD j 0 : Int) : Rat) = ip (vs cs aim j) (vs cs aim n) := fun j hj => by
    have hc : j < cs.length := by rw [X.len]; exact hj
    have e2 : (rights cs aim).getD j 0 = dot (cs.getD j []) aim := getD_map_lt hc
    rw [e2, dot_vec (X.rows _ (getD_mem hc)) X.alen, X.vn, vs_lt hc]
  refine { len := X.len, pos := X.pos, le := X.le, rows := X.rows, alen := X.alen, sm := hs, sma := hsa, solv := X.solv, upright := ?_, nulls := ?_, count := ?_, free := hfree, gram := ?_, minors := ?_, wide0 := ?_, wide1 := ?_, most := ?_, good := ?_, good' := ?_, goods := ?_ }
  · intro c hc
    obtain ⟨j, hj⟩ := List.mem_iff_getElem?.mp hc
    have hjn : j < cs.length := (List.getElem?_eq_some_iff.mp hj).1
    have e : (dot c (leftOf cs aim) : Rat) = 0 := by
      rw [dot_vec (X.rows c hc) hll, hl, ip_sc', ← getD_eq (d := []) hj, ← vs_lt (aim := aim) hjn, hp j (by rw [← X.len]; exact hjn), Rat.mul_zero]
    exact Rat.intCast_eq_zero_iff.mp e
  · intro q hq
    obtain ⟨c, hc, rfl⟩ := List.mem_map.mp hq
    rw [List.mem_filter, List.mem_range] at hc
    have hcn : c < n := by rw [← X.w]; exact hc.1
    have hx := X.nullG _ (echTo_all_rev (rd_cl n _) X.R (wd (qmat (prods cs))) (nullTo_null S hcn (of_decide_eq_true hc.2)))
    rw [X.w] at hq ⊢
    generalize hgq : nullTo (ech (qmat (prods cs))).1 (ech (qmat (prods cs))).2 n c (ech (qmat (prods cs))).2.length = q at *
    have ql : q.length = cs.length := by rw [← hgq, nullTo_len, X.len]
    have e := vec_rest (aim := aim) (b := List.replicate 4 0) X.rows (by simp) ql cs.length (Nat.le_refl _)
    have ez : vec (List.replicate 4 0) = vz := rfl
    rw [ez, X.len, hx] at e
    have lr : (restTo cs q (List.replicate 4 0) n).length = 4 := restTo_len X.rows (by simp) _ (by rw [X.len]; exact Nat.le_refl _)
    rw [rest, X.len]
    obtain ⟨x, y, z, u, hr⟩ := four lr
    rw [hr] at e ⊢
    have e1 : ((x : Int) : Rat) = (prodDen q : Rat) * 0 := congrArg V4.a e
    have e2 : ((y : Int) : Rat) = (prodDen q : Rat) * 0 := congrArg V4.b e
    have e3 : ((z : Int) : Rat) = (prodDen q : Rat) * 0 := congrArg V4.c e
    have e4 : ((u : Int) : Rat) = (prodDen q : Rat) * 0 := congrArg V4.d e
    rw [Rat.mul_zero] at e1 e2 e3 e4
    have e1 := Rat.intCast_eq_zero_iff.mp e1
    have e2 := Rat.intCast_eq_zero_iff.mp e2
    have e3 := Rat.intCast_eq_zero_iff.mp e3
    have e4 := Rat.intCast_eq_zero_iff.mp e4
    subst e1 e2 e3 e4
    intro x hx
    simpa using hx
  · rw [rankOf, X.same, nullBase, nullBaseTo, X.w, List.length_map]
    exact count_pv S
  · refine rat_inj ?_
    rw [Rat.intCast_mul, Rat.intCast_mul, Rat.intCast_mul, hdd, hwide]; grind
  · intro x hx
    obtain ⟨j, hj, rfl⟩ := List.mem_map.mp hx
    have hj : j < n := by rw [← X.sq.1]; exact List.mem_range.mp hj
    exact rpos_of (detV_of (minor_sq X.sq (by omega)) (by have := X.le; omega) fun _ _ h1 h2 => X.gm (k := j + 1) (by omega) h1 h2) (D_nn _ _)
  · refine rpos_of hwide (Rat.mul_nonneg hD (ip_nn _))
  · refine Rat.intCast_le_intCast.mp ?_
    rw [Rat.intCast_mul, hwide, haa]
    exact Rat.mul_le_mul_of_nonneg_left hrho.1 hD
  · intro hne
    have hdne : (detV (prods cs) : Rat) ≠ 0 := fun z => hne (Rat.intCast_eq_zero_iff.mp z)
    have h1 : wideOf cs aim = detV (prods cs) * dot aim aim ↔ ip ρ ρ = ip (vs cs aim n) (vs cs aim n) := by
      constructor
      · intro e
        have e2 : (wideOf cs aim : Rat) = detV (prods cs) * dot aim aim := by rw [e, Rat.intCast_mul]
        rw [hwide, haa] at e2
        have : (detV (prods cs) : Rat) * (ip ρ ρ - ip (vs cs aim n) (vs cs aim n)) = 0 := by grind
        rcases Rat.mul_eq_zero.mp this with z | z
        · exact absurd z hdne
        · grind
      · intro e
        refine rat_inj ?_
        rw [Rat.intCast_mul, hwide, haa, e]
    rw [h1]
    constructor
    · intro e x hx
      obtain ⟨j, hj⟩ := List.mem_iff_getElem?.mp hx
      have hjn : j < n := by rw [← X.rl]; exact (List.getElem?_eq_some_iff.mp hj).1
      have h2 := ip_all (hrho.2 e) (vs cs aim j)
      rw [ip_sb, ip_comm ρ, hp j hjn, ip_comm, ← hrights j hjn, getD_eq hj] at h2
      have h3 : (x : Rat) = 0 := by grind
      exact Rat.intCast_eq_zero_iff.mp h3
    · intro hz
      have h2 : ∀ j, j < n → ip (vs cs aim j) (sb (vs cs aim n) 1 ρ) = 0 := fun j hj => by
        rw [ip_sb', hp j hj, ← hrights j hj, hz _ (getD_mem (by rw [X.rl]; exact hj))]
        have e0 : ((0 : Int) : Rat) = 0 := rfl
        rw [e0]; grind
      have h3 := hspan _ h2
      have h4 := ip_z h3
      have h5 := ip_all h3 ρ
      have h6 := ip_all h3 (vs cs aim n)
      rw [ip_sb] at h5 h6
      rw [ip_comm ρ] at h6
      grind
  · exact good_of X.sq (by have := X.le; omega) fun _ _ h1 h2 => X.g h1 h2
  · exact good_of X.sq' (by have := X.le; omega) fun _ _ h1 h2 => X.g' h1 h2
  · intro j hj
    exact good_of (minor_sq X.sq (by omega)) (by have := X.le; omega) fun _ _ h1 h2 => X.gm (k := j + 1) (by omega) h1 h2
theorem three_count {l k : List Nat} (hk : k = (List.range 3).filter fun d => decide (d ∈ k)) (hl : l = (List.range 2).filter fun d => decide (d ∈ l)) (h0 : 0 ∈ l ↔ 0 ∈ k) (h1 : 1 ∈ k) (h2 : 1 ∈ l → 2 ∈ k) : l.length < k.length := by
  have ek : k.length = ((List.range 3).filter fun d => decide (d ∈ k)).length := congrArg List.length hk
  have el : l.length = ((List.range 2).filter fun d => decide (d ∈ l)).length := congrArg List.length hl
  have r3 : List.range 3 = [0, 1, 2] := rfl
  have r2 : List.range 2 = [0, 1] := rfl
  rw [ek, el, r3, r2]
  by_cases a : 0 ∈ l
  · have a' := h0.mp a
    by_cases b : 1 ∈ l
    · have b' := h2 b
      simp [a, a', b, b', h1]
    · by_cases c : 2 ∈ k <;> simp [a, a', b, c, h1]
  · have a' : 0 ∉ k := fun q => a (h0.mpr q)
    by_cases b : 1 ∈ l
    · have b' := h2 b
      simp [a, a', b, b', h1]
    · by_cases c : 2 ∈ k <;> simp [a, a', b, c, h1]
theorem end_of {c0 c1 c2 aim : List Int} (h0 : c0.length = 4) (h1 : c1.length = 4) (h2 : c2.length = 4) (ha : aim.length = 4) : EndOk [c0, c1, c2] [c0, c2] aim := by
  have X : Base4 3 [c0, c1, c2] aim := ⟨rfl, by decide, by decide, by rintro c hc; simp only [List.mem_cons, List.not_mem_nil, or_false] at hc; rcases hc with rfl | rfl | rfl <;> assumption, ha⟩
  have Y : Base4 2 [c0, c2] aim := ⟨rfl, by decide, by decide, by rintro c hc; simp only [List.mem_cons, List.not_mem_nil, or_false] at hc; rcases hc with rfl | rfl <;> assumption, ha⟩
  obtain ⟨ρ, hl, hp, hspan, _⟩ := X.left
  obtain ⟨σ, kl, kp, kspan, _⟩ := Y.left
  have v0 : vs [c0, c1, c2] aim 0 = vec c0 := rfl
  have v1 : vs [c0, c1, c2] aim 1 = vec c1 := rfl
  have v2 : vs [c0, c1, c2] aim 2 = vec c2 := rfl
  have v3 : vs [c0, c1, c2] aim 3 = vec aim := rfl
  have u0 : vs [c0, c2] aim 0 = vec c0 := rfl
  have u1 : vs [c0, c2] aim 1 = vec c2 := rfl
  have u2 : vs [c0, c2] aim 2 = vec aim := rfl
  have p0 : ip (vec c0) ρ = 0 := hp 0 (by decide)
  have p1 : ip (vec c1) ρ = 0 := hp 1 (by decide)
  have p2 : ip (vec c2) ρ = 0 := hp 2 (by decide)
  have q0 : ip (vec c0) σ = 0 := kp 0 (by decide)
  have q1 : ip (vec c2) σ = 0 := kp 1 (by decide)
  have two : ∀ y, ip (vec c0) y = 0 → ip (vec c2) y = 0 → ∀ j, j < 2 → ip (vs [c0, c2] aim j) y = 0 := fun y a b j hj => by
    match j, hj with
    | 0, _ => exact a
    | 1, _ => exact b
  have three : ∀ y, ip (vec c0) y = 0 → ip (vec c1) y = 0 → ip (vec c2) y = 0 → ∀ j, j < 3 → ip (vs [c0, c1, c2] aim j) y = 0 := fun y a b c j hj => by
    match j, hj with
    | 0, _ => exact a
    | 1, _ => exact b
    | 2, _ => exact c
  rw [v3] at hspan
  rw [u2] at kspan
  have e1 := hspan ρ (three ρ p0 p1 p2)
  have e2 := kspan ρ (two ρ p0 p2)
  rw [ip_sb] at e1 e2
  have hT : (0 : Rat) ≤ 0 := by decide
  refine ⟨?_, ?_⟩
  · have e3 := ip_nn (sb σ 1 ρ)
    rw [ip_sb, ip_sb', ip_sb', ip_comm ρ σ] at e3
    have e4 : ip ρ ρ ≤ ip σ σ := by grind
    refine Rat.intCast_le_intCast.mp ?_
    rw [Rat.intCast_mul, Rat.intCast_mul, Rat.intCast_mul, Rat.intCast_mul, dot_vec X.leftLen X.leftLen, dot_vec Y.leftLen Y.leftLen, hl, kl, ip_sc, ip_sc', ip_sc, ip_sc']
    generalize ((prodDen (qsol [c0, c2] aim) : Int) : Rat) = tl
    generalize ((prodDen (qsol [c0, c1, c2] aim) : Int) : Rat) = tw
    have e5 := Rat.mul_le_mul_of_nonneg_left e4 (Rat.mul_nonneg (sq_nn tl) (sq_nn tw))
    grind
  · by_cases hs : Sp (vs [c0, c2] aim) 2 (vec c1)
    · left
      have q2 := hs σ (two σ q0 q1)
      have e3 := hspan σ (three σ q0 q2 q1)
      have e4 := kspan σ (two σ q0 q1)
      rw [ip_sb] at e3 e4
      rw [ip_comm ρ σ] at e3
      have e5 : ip (sb σ 1 ρ) (sb σ 1 ρ) = 0 := by
        rw [ip_sb, ip_sb', ip_sb', ip_comm ρ σ]; grind
      have e6 := ip_z e5
      have f1 : σ.a - 1 * ρ.a = 0 := congrArg V4.a e6
      have f2 : σ.b - 1 * ρ.b = 0 := congrArg V4.b e6
      have f3 : σ.c - 1 * ρ.c = 0 := congrArg V4.c e6
      have f4 : σ.d - 1 * ρ.d = 0 := congrArg V4.d e6
      obtain ⟨x, y, z, u, hr⟩ := four X.leftLen
      obtain ⟨x', y', z', u', hr'⟩ := four Y.leftLen
      rw [hr] at hl ⊢
      rw [hr'] at kl ⊢
      generalize prodDen (qsol [c0, c2] aim) = tl at *
      generalize prodDen (qsol [c0, c1, c2] aim) = tw at *
      have g1 : (x : Rat) = tw * ρ.a := congrArg V4.a hl
      have g2 : (y : Rat) = tw * ρ.b := congrArg V4.b hl
      have g3 : (z : Rat) = tw * ρ.c := congrArg V4.c hl
      have g4 : (u : Rat) = tw * ρ.d := congrArg V4.d hl
      have k1 : (x' : Rat) = tl * σ.a := congrArg V4.a kl
      have k2 : (y' : Rat) = tl * σ.b := congrArg V4.b kl
      have k3 : (z' : Rat) = tl * σ.c := congrArg V4.c kl
      have k4 : (u' : Rat) = tl * σ.d := congrArg V4.d kl
      have i1 : tw * x' = tl * x := rat_inj (by rw [Rat.intCast_mul, Rat.intCast_mul, g1, k1]; grind)
      have i2 : tw * y' = tl * y := rat_inj (by rw [Rat.intCast_mul, Rat.intCast_mul, g2, k2]; grind)
      have i3 : tw * z' = tl * z := rat_inj (by rw [Rat.intCast_mul, Rat.intCast_mul, g3, k3]; grind)
      have i4 : tw * u' = tl * u := rat_inj (by rw [Rat.intCast_mul, Rat.intCast_mul, g4, k4]; grind)
      show [tw * x', tw * y', tw * z', tw * u'] = [tl * x, tl * y, tl * z, tl * u]
      rw [i1, i2, i3, i4]
    · right
      have SX := ech_shp X.Rt X.wt
      have SY := ech_shp Y.Rt Y.wt
      refine three_count SX.all SY.all ?_ ?_ ?_
      · rw [X.pivT (by decide), Y.pivT (by decide)]
        refine not_congr ⟨fun h y _ => h y fun j hj => absurd hj (Nat.not_lt_zero _), fun h y _ => h y fun j hj => absurd hj (Nat.not_lt_zero _)⟩
      · rw [X.pivT (by decide), v1]
        intro h
        refine hs fun y hy => h y fun j hj => ?_
        have : j = 0 := by omega
        subst this
        exact hy 0 (by decide)
      · rw [X.pivT (by decide), Y.pivT (by decide), u1, v2]
        intro hn h
        refine hs fun y hy => ?_
        have y0 : ip (vec c0) y = 0 := hy 0 (by decide)
        have y1 : ip (vec c2) y = 0 := hy 1 (by decide)
        refine Classical.byContradiction fun hne => hn fun z hz => ?_
        have z0 : ip (vec c0) z = 0 := hz 0 (by decide)
        have key := h (sb z (ip (vec c1) z / ip (vec c1) y) y) fun j hj => by
          match j, hj with
          | 0, _ => show ip (vec c0) _ = 0; rw [ip_sb', z0, y0]; grind
          | 1, _ => show ip (vec c1) _ = 0; rw [ip_sb', Rat.div_mul_cancel hne]; grind
        rw [ip_sb', y1] at key
        grind
theorem plain : Plain := fun c0 c1 c2 aim h0 h1 h2 ha s0 s1 s2 sa => by
  refine ⟨fine_of ⟨rfl, by decide, by decide, ?_, ha⟩ ?_ sa, fine_of ⟨rfl, by decide, by decide, ?_, ha⟩ ?_ sa, end_of h0 h1 h2 ha⟩
  · rintro c hc; simp only [List.mem_cons, List.not_mem_nil, or_false] at hc; rcases hc with rfl | rfl | rfl <;> assumption
  · rintro c hc; simp only [List.mem_cons, List.not_mem_nil, or_false] at hc; rcases hc with rfl | rfl | rfl <;> assumption
  · rintro c hc; simp only [List.mem_cons, List.not_mem_nil, or_false] at hc; rcases hc with rfl | rfl <;> assumption
  · rintro c hc; simp only [List.mem_cons, List.not_mem_nil, or_false] at hc; rcases hc with rfl | rfl <;> assumption
open PySem.Spec PySem.Calls
theorem pOfInts {B : Base} : ∀ {vs : List Value} {xs : List Int}, IntsAre vs xs → Paired (IntV B) xs vs
  | _, _, .nil => .nil
  | _, _, .cons _ t r => .cons ⟨t, rfl⟩ (pOfInts r)
set_option maxRecDepth 100000 in
set_option maxHeartbeats 4000000 in
theorem final : PySem.Challenge.rw_xm0080_01.Holds := by
  apply Mine.hd
  intro w s₀ s₁ mg mb G Y fa o pm cd doc dV kV ho hd hcd hD hmg hg args vals as hpre hlay hrd hwl hlo
  have KX := kIn_of Y
  refine Ground.open G ?_
  intro T B D TE TW
  have h1 : mg "law" = some (.ref 194) := mg_of KX T.g (by k_dflt k_is)
  have h2 : mg "law" = some (.ref fa) := hmg
  rw [h1] at h2
  obtain rfl : 194 = fa := by cases h2; rfl
  clear h2 hmg hd hcd hD ho
  have TP : Tp (Mine.hd.heap_39 w.params) (fun a => s₁.heap.get? a) := ⟨s₁.heap, fun _ _ e => e, KX, ⟨mg, T.g⟩, ⟨mb, T.b, T.builtins⟩, T.nolimit⟩
  clear KX Y G T B D TE TW
  wrow_args hpre hlay hrd hwl hlo
  rename_i ns a1 a2 a3 a4 a5 a6 a7 l vs a8 hL a9 a10 a11 hI a12 hc a13
  obtain ⟨o', ho', hc', n', hd'⟩ := hL
  show wpAny _ _ (call (.ref 194) [.ref l]) _ _ (mk s₁ s₁.heap s₁.toks)
  refine law_ok TP (fun _ _ e => e) ⟨rfl, by decide, by decide⟩ ⟨o', ho', hc', hd'⟩ (pOfInts hI) (by omega) plain fun B' h' tk' X => ?_
  exact ⟨.inl ⟨_, _, [], rfl, fun _ => rfl, ReadsW.bool true, (by first | rfl | wrow_post), fun _ => ⟨List.nodup_nil, fun _ hm => (nomatch hm)⟩⟩, .of_keep X.keep, rfl, .of_eq hg⟩
end Mine
theorem PySem.Challenge.cw_xm0080_01_holds : PySem.Challenge.rw_xm0080_01.Holds := by
  exact Mine.final
