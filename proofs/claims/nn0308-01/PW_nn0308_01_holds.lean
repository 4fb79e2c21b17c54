import PyProof.Rows.All
import Wide.All
import OpenK.AllK
import Wide.FinOn
import Lean
import PySem.Challenge.RW_nn0308_01
set_option Elab.async false
set_option maxRecDepth 100000
set_option maxHeartbeats 4000000
set_option linter.unusedVariables false
namespace Mine
open PySem PySem.W PyProof.Rows

-- Fw1
inductive AV where
  | none
  | bool (b : Bool)
  | int (i : Int)
  | str (s : Str)
  | tup (vs : List AV)
  | obj (a : Addr)
  | raw (v : Value)

mutual
inductive VR (h : Heap) : AV → Value → Prop where
  | none : VR h .none .none
  | bool (b : Bool) : VR h (.bool b) (.bool b)
  | int (i : Int) (t : Tok) : VR h (.int i) (.int i t)
  | str (x : Str) (t : Tok) : VR h (.str x) (.str x t)
  | obj (a : Addr) : VR h (.obj a) (.ref a)
  | raw (v : Value) : VR h (.raw v) v
  | tup {vs : List AV} {a : Addr} {items : List Value} (ht : IsTup h a items.toArray) (hs : VRs h vs items) : VR h (.tup vs) (.ref a)
inductive VRs (h : Heap) : List AV → List Value → Prop where
  | nil : VRs h [] []
  | cons {v : AV} {a : Value} {vs : List AV} {as : List Value} (hv : VR h v a) (hs : VRs h vs as) : VRs h (v :: vs) (a :: as)
end

noncomputable def TupsKeep (h h' : Heap) : Prop := ∀ a items, IsTup h a items → IsTup h' a items
theorem TupsKeep.refl (h : Heap) : TupsKeep h h := fun _ _ x => x
theorem TupsKeep.trans {h h' h'' : Heap} (x : TupsKeep h h') (y : TupsKeep h' h'') : TupsKeep h h'' := fun a i z => y a i (x a i z)

mutual
theorem VR.mono {h h' : Heap} (k : TupsKeep h h') : ∀ {v : AV} {a : Value}, VR h v a → VR h' v a
  | _, _, .none => .none
  | _, _, .bool b => .bool b
  | _, _, .int i t => .int i t
  | _, _, .str x t => .str x t
  | _, _, .obj a => .obj a
  | _, _, .raw v => .raw v
  | _, _, .tup ht hs => .tup (k _ _ ht) (VRs.mono k hs)
theorem VRs.mono {h h' : Heap} (k : TupsKeep h h') : ∀ {vs : List AV} {as : List Value}, VRs h vs as → VRs h' vs as
  | _, _, .nil => .nil
  | _, _, .cons hv hs => .cons (VR.mono k hv) (VRs.mono k hs)
end

theorem VRs.length {h : Heap} : ∀ {vs : List AV} {as : List Value}, VRs h vs as → vs.length = as.length
  | _, _, .nil => rfl
  | _, _, .cons _ hs => by rw [List.length_cons, List.length_cons, VRs.length hs]
theorem VRs.get {h : Heap} : ∀ {vs : List AV} {as : List Value}, VRs h vs as → ∀ (i : Nat) {a : Value}, as[i]? = some a → ∃ v, vs[i]? = some v ∧ VR h v a
  | _, _, .cons hv _, 0, _, e => by cases e; exact ⟨_, rfl, hv⟩
  | _, _, .cons _ hs, i + 1, _, e => VRs.get hs i e
theorem VRs.getL {h : Heap} : ∀ {vs : List AV} {as : List Value}, VRs h vs as → ∀ (i : Nat) {v : AV}, vs[i]? = some v → ∃ a, as[i]? = some a ∧ VR h v a
  | _, _, .cons hv _, 0, _, e => by cases e; exact ⟨_, rfl, hv⟩
  | _, _, .cons _ hs, i + 1, _, e => VRs.getL hs i e
theorem VRs.append {h : Heap} : ∀ {vs : List AV} {as : List Value} {ws : List AV} {bs : List Value}, VRs h vs as → VRs h ws bs → VRs h (vs ++ ws) (as ++ bs)
  | _, _, _, _, .nil, y => y
  | _, _, _, _, .cons hv hs, y => .cons hv (VRs.append hs y)
theorem VRs.one {h : Heap} {v : AV} {a : Value} (x : VR h v a) : VRs h [v] [a] := .cons x .nil
theorem VRs.set {h : Heap} : ∀ {vs : List AV} {as : List Value}, VRs h vs as → ∀ (i : Nat) {v : AV} {a : Value}, VR h v a → VRs h (vs.set i v) (as.set i a)
  | _, _, .nil, _, _, _, _ => .nil
  | _, _, .cons _ hs, 0, _, _, x => .cons x hs
  | _, _, .cons hv hs, i + 1, _, _, x => .cons hv (VRs.set hs i x)
theorem VRs.snoc {h : Heap} {vs : List AV} {as : List Value} {v : AV} {a : Value} (x : VRs h vs as) (y : VR h v a) : VRs h (vs ++ [v]) (as ++ [a]) := x.append (.one y)

inductive AO where
  | list (vs : List AV)
  | inst (C d : Addr)
  | ns (m : List (Str × AV))
  | tab (es : List (List Int × Int))

abbrev AS := Addr → Option AO
noncomputable def AS.set (σ : AS) (a : Addr) (o : AO) : AS := fun b => if b = a then some o else σ b
theorem AS.set_same (σ : AS) (a : Addr) (o : AO) : (σ.set a o) a = some o := if_pos rfl
theorem AS.set_ne (σ : AS) {a b : Addr} (o : AO) (h : b ≠ a) : (σ.set a o) b = σ b := if_neg h
theorem AS.set_eq (σ : AS) (a b : Addr) (o : AO) : (σ.set a o) b = if b = a then some o else σ b := rfl
theorem AS.set_set (σ : AS) (a : Addr) (o o' : AO) : (σ.set a o).set a o' = σ.set a o' := by
  funext b; simp only [AS.set_eq]; split <;> rfl
theorem AS.set_comm (σ : AS) {a b : Addr} (o o' : AO) (h : a ≠ b) : (σ.set a o).set b o' = (σ.set b o').set a o := by
  funext c; simp only [AS.set_eq]
  by_cases h1 : c = b
  · subst h1; rw [if_pos rfl, if_neg (Ne.symm h), if_pos rfl]
  · rw [if_neg h1]
    by_cases h2 : c = a
    · rw [if_pos h2, if_pos h2]
    · rw [if_neg h2, if_neg h2, if_neg h1]
theorem AS.set_self {σ : AS} {a : Addr} {o : AO} (h : σ a = some o) : σ.set a o = σ := by
  funext b; simp only [AS.set_eq]; split
  · rename_i e; rw [e, h]
  · rfl
noncomputable def AS.le (σ σ' : AS) : Prop := ∀ a o, σ a = some o → σ' a = some o
theorem AS.le_refl (σ : AS) : σ.le σ := fun _ _ e => e
theorem AS.le_trans {a b c : AS} (x : a.le b) (y : b.le c) : a.le c := fun p o e => y p o (x p o e)
theorem AS.le_set {σ : AS} {a : Addr} {o : AO} (h : σ a = Option.none) : σ.le (σ.set a o) := fun b p e => by
  rw [AS.set_eq]; split
  · rename_i q; subst q; rw [h] at e; cases e
  · exact e
theorem AS.set_le {σ σ' : AS} {a : Addr} {o : AO} (h : σ.le σ') : (σ.set a o).le (σ'.set a o) := fun b p e => by
  rw [AS.set_eq] at e ⊢; split
  · rename_i q; rw [if_pos q] at e; exact e
  · rename_i q; rw [if_neg q] at e; exact h b p e

section
variable (prog : Program) (w : World)

noncomputable def tabX (h : Heap) : List (List Int × Int) → List (List Int × Addr × Value) → Prop
  | [], [] => True
  | (k, v) :: r, (k', _, x) :: r' => k = k' ∧ VR h (.int v) x ∧ tabX h r r'
  | _, _ => False

noncomputable def NsOk (h : Heap) (m : List (Str × AV)) (es : List DictEntry) : Prop :=
  es.length ≤ m.length ∧ ∀ x : Str, match m.lookup x with
    | some v => ∃ a, getL x es = some (some a) ∧ VR h v a
    | Option.none => getL x es = some Option.none

noncomputable def AR (h : Heap) (a : Addr) : AO → Prop
  | .list vs => ∃ items, h.PlainList a items ∧ VRs h vs items.toList
  | .inst C d => h.get? a = some (instObj C d)
  | .ns m => ∃ es n, h.get? a = some (dictOf es n) ∧ NsOk h m es
  | .tab es => ∃ xs, h.DictOfH (tupleKind (intKind prog w)) a xs ∧ tabX h es xs
end
-- Fw2
section
variable {prog : Program} {w : World}

theorem IsTup.get {h : Heap} {a : Addr} {items : Array Value} (x : IsTup h a items) : ∃ o, h.get? a = some o ∧ o.cls = .type "tuple" := let ⟨o, h1, h2, _⟩ := x; ⟨o, h1, h2⟩
theorem tups_of {U : Addr → Prop} {h h' : Heap} (hk : ∀ b o, ¬ U b → h.get? b = some o → h'.get? b = some o) (hu : ∀ b, U b → ∀ o, h.get? b = some o → o.cls ≠ .type "tuple") : TupsKeep h h' := by
  rintro a items ⟨o, h1, h2, r⟩
  by_cases q : U a
  · exact absurd h2 (hu a q o h1)
  · exact ⟨o, hk a o q h1, h2, r⟩

theorem tabX.mono {h h' : Heap} (k : TupsKeep h h') : ∀ {es : List (List Int × Int)} {xs : List (List Int × Addr × Value)}, tabX h es xs → tabX h' es xs
  | [], [], _ => trivial
  | (_, _) :: _, (_, _, _) :: _, ⟨h1, h2, h3⟩ => ⟨h1, h2.mono k, tabX.mono k h3⟩
theorem NsOk.mono {h h' : Heap} (k : TupsKeep h h') {m : List (Str × AV)} {es : List DictEntry} (x : NsOk h m es) : NsOk h' m es := by
  refine ⟨x.1, fun y => ?_⟩
  have := x.2 y
  split <;> rename_i q <;> rw [q] at this
  · obtain ⟨a, e, v⟩ := this; exact ⟨a, e, v.mono k⟩
  · exact this

theorem AR.mono {h h' : Heap} {a : Addr} {o : AO} (k : TupsKeep h h') (e : ∀ ob, h.get? a = some ob → h'.get? a = some ob) (x : AR prog w h a o) : AR prog w h' a o := by
  cases o with
  | list vs => obtain ⟨items, ⟨ob, h1⟩, v⟩ := x; exact ⟨items, ⟨ob, e _ h1⟩, v.mono k⟩
  | inst C d => exact e _ x
  | ns m => obtain ⟨es, n, h1, h2⟩ := x; exact ⟨es, n, e _ h1, h2.mono k⟩
  | tab es =>
    obtain ⟨xs, ⟨ob, es', ep, h1, h2, h3, h4, h5, h6⟩, t⟩ := x
    refine ⟨xs, ⟨ob, es', ep, e _ h1, h2, h3, h4, fun p hp => ?_, h6⟩, t.mono k⟩
    obtain ⟨o', items, n, g1, g2, g3, g4⟩ := h5 p hp
    obtain ⟨o'', f1, f2, n', f3⟩ := k _ _ ⟨o', g1, g2, n, g3⟩
    exact ⟨o'', items, n', f1, f2, f3, g4⟩
theorem AR.get {h : Heap} {a : Addr} {o : AO} (x : AR prog w h a o) : ∃ ob, h.get? a = some ob ∧ ob.cls ≠ .type "tuple" := by
  cases o with
  | list vs => obtain ⟨items, ⟨ob, h1⟩, v⟩ := x; exact ⟨_, h1, by show Value.type "list" ≠ _; decide⟩
  | inst C d => exact ⟨_, x, by intro e; cases e⟩
  | ns m => obtain ⟨es, n, h1, h2⟩ := x; exact ⟨_, h1, by show Value.type "dict" ≠ _; decide⟩
  | tab es => obtain ⟨xs, ⟨ob, es', ep, h1, h2, _⟩, t⟩ := x; exact ⟨ob, h1, by rw [h2.1]; decide⟩

variable (prog w) in
structure Rel (h₀ : Heap) (σ : AS) (h : Heap) : Prop where
  base : ∀ b o, h₀.get? b = some o → h.get? b = some o
  apart : ∀ b o, σ b = some o → h₀.get? b = none
  at' : ∀ b o, σ b = some o → AR prog w h b o

theorem Rel.le {h₀ : Heap} {σ σ' : AS} {h : Heap} (x : Rel prog w h₀ σ' h) (l : σ.le σ') : Rel prog w h₀ σ h := ⟨x.base, fun b o e => x.apart b o (l b o e), fun b o e => x.at' b o (l b o e)⟩

variable (prog w) in
structure Post (h₀ : Heap) (U : Addr → Prop) (s : Shared) (σ' : AS) (s' : Shared) : Prop where
  rel : Rel prog w h₀ σ' s'.heap
  keep : ∀ b o, ¬ U b → s.heap.get? b = some o → s'.heap.get? b = some o
  fresh : ∀ b o, σ' b = some o → ¬ U b → s.heap.get? b = none
  tups : TupsKeep s.heap s'.heap
  stay : ∀ b o, s.heap.get? b = some o → ∃ o', s'.heap.get? b = some o'
  same : ∃ h tk, s' = { s with heap := h, toks := tk }

noncomputable def dom (σ : AS) : Addr → Prop := fun b => σ b ≠ none
theorem dom_iff {σ : AS} {b : Addr} : dom σ b ↔ ∃ o, σ b = some o := by unfold dom; cases σ b <;> simp
theorem not_dom {σ : AS} {b : Addr} : ¬ dom σ b ↔ σ b = none := by unfold dom; cases σ b <;> simp

theorem Post.refl {h₀ : Heap} {σ : AS} {s : Shared} (x : Rel prog w h₀ σ s.heap) {U : Addr → Prop} (hU : ∀ b, dom σ b → U b) : Post prog w h₀ U s σ s :=
  ⟨x, fun _ _ _ e => e, fun b o e n => absurd (hU b (dom_iff.mpr ⟨o, e⟩)) n, .refl _, fun _ o e => ⟨o, e⟩, _, _, rfl⟩
theorem Post.trans {h₀ : Heap} {σ₁ σ₂ : AS} {s s₁ s₂ : Shared} {U U₁ : Addr → Prop} (x : Post prog w h₀ U s σ₁ s₁) (y : Post prog w h₀ U₁ s₁ σ₂ s₂) (hU : ∀ b, U₁ b → U b ∨ dom σ₁ b) : Post prog w h₀ U s σ₂ s₂ where
  rel := y.rel
  keep := fun b o n e => y.keep b o (fun q => (hU b q).elim n fun d => by
    obtain ⟨o', d⟩ := dom_iff.mp d
    rw [x.fresh b o' d n] at e; cases e) (x.keep b o n e)
  fresh := fun b o e n => by
    by_cases q : U₁ b
    · rcases hU b q with q | q
      · exact absurd q n
      · obtain ⟨o', d⟩ := dom_iff.mp q; exact x.fresh b o' d n
    · have := y.fresh b o e q
      cases c : s.heap.get? b with
      | none => rfl
      | some ob => rw [x.keep b ob n c] at this; cases this
  tups := x.tups.trans y.tups
  stay := fun b o e => let ⟨o', e'⟩ := x.stay b o e; y.stay b o' e'
  same := by
    obtain ⟨h1, t1, rfl⟩ := x.same
    obtain ⟨h2, t2, rfl⟩ := y.same
    exact ⟨h2, t2, rfl⟩
theorem Post.trans₀ {h₀ : Heap} {σ₁ σ₂ : AS} {s s₁ s₂ : Shared} {U U₁ : Addr → Prop} (x : Post prog w h₀ U s σ₁ s₁) (y : Post prog w h₀ U₁ s₁ σ₂ s₂) (hU : ∀ b, U₁ b → U b ∨ dom σ₁ b ∨ s.heap.get? b = none) : Post prog w h₀ U s σ₂ s₂ where
  rel := y.rel
  keep := fun b o n e => y.keep b o (fun q => (hU b q).elim n fun d => d.elim (fun d => by
    obtain ⟨o', d⟩ := dom_iff.mp d
    rw [x.fresh b o' d n] at e; cases e) fun d => by rw [d] at e; cases e) (x.keep b o n e)
  fresh := fun b o e n => by
    by_cases q : U₁ b
    · rcases hU b q with q | q | q
      · exact absurd q n
      · obtain ⟨o', d⟩ := dom_iff.mp q; exact x.fresh b o' d n
      · exact q
    · have := y.fresh b o e q
      cases c : s.heap.get? b with
      | none => rfl
      | some ob => rw [x.keep b ob n c] at this; cases this
  tups := x.tups.trans y.tups
  stay := fun b o e => let ⟨o', e'⟩ := x.stay b o e; y.stay b o' e'
  same := by
    obtain ⟨h1, t1, rfl⟩ := x.same
    obtain ⟨h2, t2, rfl⟩ := y.same
    exact ⟨h2, t2, rfl⟩
theorem Post.new {h₀ : Heap} {σ₁ : AS} {s s₁ : Shared} {U : Addr → Prop} (x : Post prog w h₀ U s σ₁ s₁) {b : Addr} (e : s₁.heap.get? b = none) : s.heap.get? b = none := by
  cases c : s.heap.get? b with
  | none => rfl
  | some o => obtain ⟨o', e'⟩ := x.stay b o c; rw [e] at e'; cases e'
theorem Post.weaken {h₀ : Heap} {σ₁ σ₂ : AS} {s s₁ : Shared} {U : Addr → Prop} (x : Post prog w h₀ U s σ₁ s₁) (l : σ₂.le σ₁) : Post prog w h₀ U s σ₂ s₁ :=
  ⟨x.rel.le l, x.keep, fun b o e n => x.fresh b o (l b o e) n, x.tups, x.stay, x.same⟩
theorem Post.mono {h₀ : Heap} {σ₁ : AS} {s s₁ : Shared} {U U' : Addr → Prop} (x : Post prog w h₀ U s σ₁ s₁) (l : ∀ b, U b → U' b) : Post prog w h₀ U' s σ₁ s₁ :=
  ⟨x.rel, fun b o n e => x.keep b o (fun q => n (l b q)) e, fun b o e n => x.fresh b o e (fun q => n (l b q)), x.tups, x.stay, x.same⟩
theorem Post.trans' {h₀ : Heap} {σ₁ σ₂ : AS} {s s₁ s₂ : Shared} {U : Addr → Prop} (x : Post prog w h₀ U s σ₁ s₁) (y : Post prog w h₀ (dom σ₁) s₁ σ₂ s₂) : Post prog w h₀ U s σ₂ s₂ :=
  x.trans y fun _ q => .inr q
theorem Post.vr {h₀ : Heap} {σ₁ : AS} {s s₁ : Shared} {U : Addr → Prop} (x : Post prog w h₀ U s σ₁ s₁) {v : AV} {a : Value} (r : VR s.heap v a) : VR s₁.heap v a := r.mono x.tups
theorem Post.vrs {h₀ : Heap} {σ₁ : AS} {s s₁ : Shared} {U : Addr → Prop} (x : Post prog w h₀ U s σ₁ s₁) {v : List AV} {a : List Value} (r : VRs s.heap v a) : VRs s₁.heap v a := r.mono x.tups

theorem toks_post {h₀ : Heap} {σ : AS} {s : Shared} (x : Rel prog w h₀ σ s.heap) (n : Nat) : Post prog w h₀ (dom σ) s σ { s with toks := n } :=
  ⟨x, fun _ _ _ e => e, fun b o e n => absurd (dom_iff.mpr ⟨o, e⟩) n, .refl _, fun _ o e => ⟨o, e⟩, _, _, rfl⟩
theorem keeps_post {h₀ : Heap} {σ : AS} {s : Shared} (x : Rel prog w h₀ σ s.heap) {h' : Heap} {n : Nat} (hk : ∀ b o, s.heap.get? b = some o → h'.get? b = some o) : Post prog w h₀ (dom σ) s σ { s with heap := h', toks := n } :=
  have ht : TupsKeep s.heap h' := fun _ _ ⟨o, h1, r⟩ => ⟨o, hk _ _ h1, r⟩
  ⟨⟨fun b o e => hk b o (x.base b o e), x.apart, fun b o e => (x.at' b o e).mono ht fun ob => hk b ob⟩, fun b o _ e => hk b o e, fun b o e n => absurd (dom_iff.mpr ⟨o, e⟩) n, ht, fun b o e => ⟨o, hk b o e⟩, _, _, rfl⟩

theorem Rel.none_of_new {h₀ : Heap} {σ : AS} {h : Heap} (x : Rel prog w h₀ σ h) {a : Addr} (ha : h.get? a = none) : σ a = none := by
  cases e : σ a with
  | none => rfl
  | some o => obtain ⟨ob, h1, _⟩ := (x.at' a o e).get; rw [ha] at h1; cases h1

theorem new_post {h₀ : Heap} {σ : AS} {s : Shared} (x : Rel prog w h₀ σ s.heap) {h' : Heap} {n : Nat} {a : Addr} {o : AO} (ha : s.heap.get? a = none) (hk : ∀ b o, s.heap.get? b = some o → h'.get? b = some o)
    (ho : AR prog w h' a o) : Post prog w h₀ (dom σ) s (σ.set a o) { s with heap := h', toks := n } := by
  have ht : TupsKeep s.heap h' := fun _ _ ⟨o, h1, r⟩ => ⟨o, hk _ _ h1, r⟩
  have ha₀ : h₀.get? a = none := by
    cases e : h₀.get? a with
    | none => rfl
    | some ob => rw [x.base a ob e] at ha; cases ha
  refine ⟨⟨fun b o e => hk b o (x.base b o e), fun b p e => ?_, fun b p e => ?_⟩, fun b o _ e => hk b o e, fun b p e q => ?_, ht, fun b o e => ⟨o, hk b o e⟩, _, _, rfl⟩
  · rw [AS.set_eq] at e; split at e
    · rename_i q; rw [q]; exact ha₀
    · exact x.apart b p e
  · rw [AS.set_eq] at e; split at e
    · rename_i q; cases e; rw [q]; exact ho
    · exact (x.at' b p e).mono ht fun ob => hk b ob
  · rw [AS.set_eq] at e; split at e
    · rename_i q; rw [q]; exact ha
    · exact absurd (dom_iff.mpr ⟨p, e⟩) q

theorem upd_post {h₀ : Heap} {σ : AS} {s : Shared} (x : Rel prog w h₀ σ s.heap) {h' : Heap} {n : Nat} {a : Addr} {o o' : AO} (ha : σ a = some o) (hk : ∀ b o, b ≠ a → s.heap.get? b = some o → h'.get? b = some o)
    (ho : TupsKeep s.heap h' → AR prog w h' a o') : Post prog w h₀ (dom σ) s (σ.set a o') { s with heap := h', toks := n } := by
  obtain ⟨ob, hob, hcl⟩ := (x.at' a o ha).get
  have ht : TupsKeep s.heap h' := tups_of (U := fun b => b = a) (fun b o q e => hk b o q e) (fun b q ob' e => by subst q; rw [hob] at e; cases e; exact hcl)
  have ha₀ := x.apart a o ha
  refine ⟨⟨fun b o e => hk b o (fun q => by subst q; rw [ha₀] at e; cases e) (x.base b o e), fun b p e => ?_, fun b p e => ?_⟩, fun b o q e => hk b o (fun z => by subst z; exact q (dom_iff.mpr ⟨_, ha⟩)) e, fun b p e q => ?_, ht, fun b o e => ?_, _, _, rfl⟩
  · rw [AS.set_eq] at e; split at e
    · rename_i q; rw [q]; exact ha₀
    · exact x.apart b p e
  · rw [AS.set_eq] at e; split at e
    · rename_i q; cases e; rw [q]; exact ho ht
    · rename_i q; exact (x.at' b p e).mono ht fun ob => hk b ob q
  · rw [AS.set_eq] at e; split at e
    · rename_i z; rw [z] at q; exact absurd (dom_iff.mpr ⟨_, ha⟩) q
    · exact absurd (dom_iff.mpr ⟨p, e⟩) q
  · by_cases q : b = a
    · subst q; obtain ⟨ob', e', _⟩ := (ho ht).get; exact ⟨ob', e'⟩
    · exact ⟨o, hk b o q e⟩

/-! frames -/
noncomputable def OR (h : Heap) : Option AV → Option Value → Prop
  | none, _ => True
  | some v, some a => VR h v a
  | some _, none => False
theorem OR.mono {h h' : Heap} (k : TupsKeep h h') {v : Option AV} {a : Option Value} (x : OR h v a) : OR h' v a := by
  cases v with
  | none => trivial
  | some v => cases a with
    | none => exact x.elim
    | some a => exact VR.mono k x

abbrev Rho := Str → Option AV
noncomputable def Rho.set (ρ : Rho) (x : Str) (v : AV) : Rho := fun y => if y = x then some v else ρ y

structure FR (h₀ : Heap) (env : Env) (ρ : Rho) (σ : AS) (h : Heap) : Prop where
  ns : ∃ m, h.Ns env.locals m ∧ ∀ x, env.kindOf x = some .local → OR h (ρ x) (m x)
  cell : ∀ x c, env.cells.lookup x = some c → ∃ v, h.IsCell c v ∧ (env.kindOf x = some .cell ∨ env.kindOf x = some .free → OR h (ρ x) v)
  kind : env.scope.kind = .function
  glob : env.globals = mainGlobals
  blt : env.builtins = builtinsNs
  lnew : h₀.get? env.locals = none
  cnew : ∀ x c, env.cells.lookup x = some c → h₀.get? c = none
  lap : σ env.locals = none
  cap : ∀ x c, env.cells.lookup x = some c → σ c = none
  cl : ∀ x c, env.cells.lookup x = some c → c ≠ env.locals
  inj : ∀ x y c, env.cells.lookup x = some c → env.cells.lookup y = some c → x = y

noncomputable def inFrame (env : Env) (b : Addr) : Prop := b = env.locals ∨ ∃ x, env.cells.lookup x = some b

theorem FR.of_keep {h₀ : Heap} {env : Env} {ρ : Rho} {σ σ' : AS} {h h' : Heap} (F : FR h₀ env ρ σ h) (ht : TupsKeep h h') (hk : ∀ b o, inFrame env b → h.get? b = some o → h'.get? b = some o) (hσ : ∀ b, inFrame env b → σ' b = none) :
    FR h₀ env ρ σ' h' where
  ns := by
    obtain ⟨m, ⟨o, es, ep, h1, r⟩, h2⟩ := F.ns
    exact ⟨m, ⟨o, es, ep, hk _ _ (.inl rfl) h1, r⟩, fun x hx => (h2 x hx).mono ht⟩
  cell := fun x c e => by
    obtain ⟨v, ⟨o, h1, r⟩, h2⟩ := F.cell x c e
    exact ⟨v, ⟨o, hk _ _ (.inr ⟨x, e⟩) h1, r⟩, fun q => (h2 q).mono ht⟩
  kind := F.kind
  glob := F.glob
  blt := F.blt
  lnew := F.lnew
  cnew := F.cnew
  lap := hσ _ (.inl rfl)
  cap := fun x c e => hσ _ (.inr ⟨x, e⟩)
  cl := F.cl
  inj := F.inj
theorem FR.ap {h₀ : Heap} {env : Env} {ρ : Rho} {σ : AS} {h : Heap} (F : FR h₀ env ρ σ h) : ∀ b, inFrame env b → σ b = none
  | _, .inl e => e ▸ F.lap
  | _, .inr ⟨x, e⟩ => F.cap x _ e
theorem FR.got {h₀ : Heap} {env : Env} {ρ : Rho} {σ : AS} {h : Heap} (F : FR h₀ env ρ σ h) : ∀ b, inFrame env b → ∃ o, h.get? b = some o
  | _, .inl e => by obtain ⟨m, ⟨o, es, ep, h1, r⟩, h2⟩ := F.ns; exact ⟨o, e ▸ h1⟩
  | _, .inr ⟨x, e⟩ => by obtain ⟨v, ⟨o, h1, r⟩, h2⟩ := F.cell x _ e; exact ⟨o, h1⟩
theorem FR.post {h₀ : Heap} {env : Env} {ρ : Rho} {σ σ' : AS} {s s' : Shared} (F : FR h₀ env ρ σ s.heap) (p : Post prog w h₀ (dom σ) s σ' s') : FR h₀ env ρ σ' s'.heap :=
  F.of_keep p.tups (fun b o q e => p.keep b o (not_dom.mpr (F.ap b q)) e) fun b q => by
    cases e : σ' b with
    | none => rfl
    | some o =>
      obtain ⟨ob, g⟩ := F.got b q
      rw [p.fresh b o e (not_dom.mpr (F.ap b q))] at g; cases g

structure Ok (n : Nat) (A : Around) : Prop where
  handled : A.handled = none
  depth : A.depth + n < recursionLimit
  units : A.units + 4 * n + 40 < cLine

theorem Ok.less {n m : Nat} {A : Around} (x : Ok n A) (h : m ≤ n) : Ok m A := ⟨x.handled, Nat.lt_of_le_of_lt (Nat.add_le_add_left h _) x.depth, by have := x.units; omega⟩
theorem Ok.room {n : Nat} {A : Around} (x : Ok n A) : A.depth < recursionLimit := Nat.lt_of_le_of_lt (Nat.le_add_right _ _) x.depth
theorem Ok.u {n : Nat} {A : Around} (x : Ok n A) : A.units < cLine := by have := x.units; omega
theorem Ok.deeper {n : Nat} {A : Around} (x : Ok (n + 1) A) (env : Env) : Ok n (A.deeper env) := ⟨x.handled, by have := x.depth; show A.depth + 1 + n < _; omega, by have := x.units; show A.units + 3 + 4 * n + 40 < _; omega⟩

section
variable (prog w)
variable (h₀ : Heap)
abbrev NoE : Value → Shared → Prop := fun _ _ => False

noncomputable def PV (U : Addr → Prop) (s : Shared) (Q : AV → AS → Prop) : Value → Shared → Prop := fun a s' => ∃ v σ', Post prog w h₀ U s σ' s' ∧ VR s'.heap v a ∧ Q v σ'
noncomputable def PU (U : Addr → Prop) (s : Shared) (Q : AS → Prop) : Unit → Shared → Prop := fun _ s' => ∃ σ', Post prog w h₀ U s σ' s' ∧ Q σ'
noncomputable def PB (U : Addr → Prop) (s : Shared) (Q : Bool → AS → Prop) : Bool → Shared → Prop := fun b s' => ∃ σ', Post prog w h₀ U s σ' s' ∧ Q b σ'
noncomputable def PL (U : Addr → Prop) (s : Shared) (Q : List AV → AS → Prop) : List Value → Shared → Prop := fun l s' => ∃ vs σ', Post prog w h₀ U s σ' s' ∧ VRs s'.heap vs l ∧ Q vs σ'

inductive AF where
  | next | brk | cont
  | ret (v : AV)
inductive FlR (h : Heap) : AF → Flow → Prop where
  | next : FlR h .next .next
  | brk : FlR h .brk .brk
  | cont : FlR h .cont .cont
  | ret {v : AV} {a : Value} (x : VR h v a) : FlR h (.ret v) (.ret a)
theorem FlR.mono {h h' : Heap} (k : TupsKeep h h') {f : AF} {g : Flow} (x : FlR h f g) : FlR h' f g := by
  cases x with
  | next => exact .next
  | brk => exact .brk
  | cont => exact .cont
  | ret x => exact .ret (x.mono k)

noncomputable def PF (env : Env) (σ : AS) (s : Shared) (Q : AF → Rho → AS → Prop) : Flow → Shared → Prop := fun f s' =>
  ∃ fl ρ' σ', Post prog w h₀ (fun b => dom σ b ∨ inFrame env b) s σ' s' ∧ FR h₀ env ρ' σ' s'.heap ∧ FlR s'.heap fl f ∧ Q fl ρ' σ'
noncomputable def PN (env : Env) (σ : AS) (s : Shared) (Q : Rho → AS → Prop) : Unit → Shared → Prop := fun _ s' =>
  ∃ ρ' σ', Post prog w h₀ (fun b => dom σ b ∨ inFrame env b) s σ' s' ∧ FR h₀ env ρ' σ' s'.heap ∧ Q ρ' σ'

noncomputable def TV (n : Nat) (σ : AS) (held : Heap → Prop) (t : Sem Value) (Q : AV → AS → Prop) : Prop :=
  ∀ A s, Ok n A → Rel prog w h₀ σ s.heap → held s.heap → wpAny (model prog w) A t (PV prog w h₀ (dom σ) s Q) NoE s

noncomputable def Ev (n : Nat) (env : Env) (ρ : Rho) (σ : AS) (e : Expr) (Q : AV → AS → Prop) : Prop :=
  ∀ A s, Ok n A → Rel prog w h₀ σ s.heap → FR h₀ env ρ σ s.heap → wpAny (model prog w) A (eval e env) (PV prog w h₀ (dom σ) s Q) NoE s
noncomputable def Evs (n : Nat) (env : Env) (ρ : Rho) (σ : AS) (es : List Expr) (Q : List AV → AS → Prop) : Prop :=
  ∀ A s pos, Ok n A → Rel prog w h₀ σ s.heap → FR h₀ env ρ σ s.heap → wpAny (model prog w) A (spliced (backTo pos (starEach es env))) (PL prog w h₀ (dom σ) s Q) NoE s
noncomputable def Tr (n : Nat) (env : Env) (ρ : Rho) (σ : AS) (e : Expr) (Q : Bool → AS → Prop) : Prop :=
  ∀ A s, Ok n A → Rel prog w h₀ σ s.heap → FR h₀ env ρ σ s.heap → wpAny (model prog w) A (isTrue e env (eval e env)) (PB prog w h₀ (dom σ) s Q) NoE s
noncomputable def Ex (n : Nat) (env : Env) (ρ : Rho) (σ : AS) (st : Stmt) (Q : AF → Rho → AS → Prop) : Prop :=
  ∀ A s, Ok n A → Rel prog w h₀ σ s.heap → FR h₀ env ρ σ s.heap → wpAny (model prog w) A (exec st env) (PF prog w h₀ env σ s Q) NoE s
noncomputable def Exs (n : Nat) (env : Env) (ρ : Rho) (σ : AS) (st : List Stmt) (Q : AF → Rho → AS → Prop) : Prop :=
  ∀ A s, Ok n A → Rel prog w h₀ σ s.heap → FR h₀ env ρ σ s.heap → wpAny (model prog w) A (execs st env) (PF prog w h₀ env σ s Q) NoE s
noncomputable def As (n : Nat) (env : Env) (ρ : Rho) (σ : AS) (t : Expr) (v : AV) (Q : Rho → AS → Prop) : Prop :=
  ∀ A s a, Ok n A → Rel prog w h₀ σ s.heap → FR h₀ env ρ σ s.heap → VR s.heap v a → wpAny (model prog w) A (assign t env a) (PN prog w h₀ env σ s Q) NoE s
noncomputable def Cl (n : Nat) (σ : AS) (f : AV) (args : List AV) (Q : AV → AS → Prop) : Prop :=
  ∀ A s f' as, Ok n A → Rel prog w h₀ σ s.heap → VR s.heap f f' → VRs s.heap args as → wpAny (model prog w) A (call f' as) (PV prog w h₀ (dom σ) s Q) NoE s
noncomputable def Bin (n : Nat) (σ : AS) (op : Operator) (l r : AV) (Q : AV → AS → Prop) : Prop :=
  ∀ A s a b, Ok n A → Rel prog w h₀ σ s.heap → VR s.heap l a → VR s.heap r b → wpAny (model prog w) A (binaryOp op a b) (PV prog w h₀ (dom σ) s Q) NoE s
noncomputable def Cmp (n : Nat) (σ : AS) (op : CmpOp) (l r : AV) (Q : AV → AS → Prop) : Prop :=
  ∀ A s a b, Ok n A → Rel prog w h₀ σ s.heap → VR s.heap l a → VR s.heap r b → wpAny (model prog w) A (compareOp op a b) (PV prog w h₀ (dom σ) s Q) NoE s
noncomputable def Un (n : Nat) (σ : AS) (op : UnaryOp) (l : AV) (Q : AV → AS → Prop) : Prop :=
  ∀ A s a, Ok n A → Rel prog w h₀ σ s.heap → VR s.heap l a → wpAny (model prog w) A (unaryOp op a) (PV prog w h₀ (dom σ) s Q) NoE s
noncomputable def Truthy (n : Nat) (σ : AS) (l : AV) (Q : Bool → AS → Prop) : Prop :=
  ∀ A s a, Ok n A → Rel prog w h₀ σ s.heap → VR s.heap l a → wpAny (model prog w) A (truthy a) (PB prog w h₀ (dom σ) s Q) NoE s
noncomputable def Get (n : Nat) (σ : AS) (o i : AV) (Q : AV → AS → Prop) : Prop :=
  ∀ A s a b, Ok n A → Rel prog w h₀ σ s.heap → VR s.heap o a → VR s.heap i b → wpAny (model prog w) A (getItem a b) (PV prog w h₀ (dom σ) s Q) NoE s
noncomputable def SetI (n : Nat) (σ : AS) (o i v : AV) (Q : AS → Prop) : Prop :=
  ∀ A s a b c, Ok n A → Rel prog w h₀ σ s.heap → VR s.heap o a → VR s.heap i b → VR s.heap v c → wpAny (model prog w) A (setItem a b c) (PU prog w h₀ (dom σ) s Q) NoE s
noncomputable def Attr (n : Nat) (σ : AS) (o : AV) (x : Str) (Q : AV → AS → Prop) : Prop :=
  ∀ A s a, Ok n A → Rel prog w h₀ σ s.heap → VR s.heap o a → wpAny (model prog w) A (getAttr a x true) (PV prog w h₀ (dom σ) s Q) NoE s
end
end
-- Fw3
section
variable {prog : Program} {w : World} {h₀ : Heap} {n : Nat} {env : Env} {ρ : Rho} {σ : AS}

theorem noE {α : Type} {M : Model} {A : Around} {t : Sem α} {Q : α → Shared → Prop} {E : Value → Shared → Prop} {s : Shared} (h : wpAny M A t Q NoE s) : wpAny M A t Q E s := wpAny_mono h (fun _ _ x => x) fun _ _ x => x.elim

theorem Ev.mono {e : Expr} {Q Q' : AV → AS → Prop} (h : Ev prog w h₀ n env ρ σ e Q) (k : ∀ v σ', Q v σ' → Q' v σ') : Ev prog w h₀ n env ρ σ e Q' :=
  fun A s ok r F => wpAny_mono (h A s ok r F) (fun _ _ ⟨v, σ', p, x, q⟩ => ⟨v, σ', p, x, k _ _ q⟩) fun _ _ x => x
theorem Evs.mono {e : List Expr} {Q Q' : List AV → AS → Prop} (h : Evs prog w h₀ n env ρ σ e Q) (k : ∀ v σ', Q v σ' → Q' v σ') : Evs prog w h₀ n env ρ σ e Q' :=
  fun A s pos ok r F => wpAny_mono (h A s pos ok r F) (fun _ _ ⟨v, σ', p, x, q⟩ => ⟨v, σ', p, x, k _ _ q⟩) fun _ _ x => x
theorem Tr.mono {e : Expr} {Q Q' : Bool → AS → Prop} (h : Tr prog w h₀ n env ρ σ e Q) (k : ∀ v σ', Q v σ' → Q' v σ') : Tr prog w h₀ n env ρ σ e Q' :=
  fun A s ok r F => wpAny_mono (h A s ok r F) (fun _ _ ⟨σ', p, q⟩ => ⟨σ', p, k _ _ q⟩) fun _ _ x => x
theorem Exs.mono {e : List Stmt} {Q Q' : AF → Rho → AS → Prop} (h : Exs prog w h₀ n env ρ σ e Q) (k : ∀ f r σ', Q f r σ' → Q' f r σ') : Exs prog w h₀ n env ρ σ e Q' :=
  fun A s ok r F => wpAny_mono (h A s ok r F) (fun _ _ ⟨v, r', σ', p, x, y, q⟩ => ⟨v, r', σ', p, x, y, k _ _ _ q⟩) fun _ _ x => x
theorem Cl.mono {f : AV} {as : List AV} {Q Q' : AV → AS → Prop} (h : Cl prog w h₀ n σ f as Q) (k : ∀ v σ', Q v σ' → Q' v σ') : Cl prog w h₀ n σ f as Q' :=
  fun A s f' vs ok r F x => wpAny_mono (h A s f' vs ok r F x) (fun _ _ ⟨v, σ', p, x, q⟩ => ⟨v, σ', p, x, k _ _ q⟩) fun _ _ x => x
theorem Ev.less {m : Nat} {e : Expr} {Q : AV → AS → Prop} (h : Ev prog w h₀ m env ρ σ e Q) (l : m ≤ n) : Ev prog w h₀ n env ρ σ e Q := fun A s ok r F => h A s (ok.less l) r F
theorem Cl.less {m : Nat} {f : AV} {as : List AV} {Q : AV → AS → Prop} (h : Cl prog w h₀ m σ f as Q) (l : m ≤ n) : Cl prog w h₀ n σ f as Q := fun A s f' vs ok r x y => h A s f' vs (ok.less l) r x y

theorem Ev.forget {e : Expr} {Q : AV → AS → Prop} (h : Ev prog w h₀ n env ρ σ e fun v σ' => ∃ σ₁, AS.le σ₁ σ' ∧ Q v σ₁) : Ev prog w h₀ n env ρ σ e Q :=
  fun A s ok r F => wpAny_mono (h A s ok r F) (fun _ _ ⟨v, σ', p, x, σ₁, l, q⟩ => ⟨v, σ₁, p.weaken l, x, q⟩) fun _ _ x => x
theorem Cl.forget {f : AV} {as : List AV} {Q : AV → AS → Prop} (h : Cl prog w h₀ n σ f as fun v σ' => ∃ σ₁, AS.le σ₁ σ' ∧ Q v σ₁) : Cl prog w h₀ n σ f as Q :=
  fun A s f' vs ok r y z => wpAny_mono (h A s f' vs ok r y z) (fun _ _ ⟨v, σ', p, x, σ₁, l, q⟩ => ⟨v, σ₁, p.weaken l, x, q⟩) fun _ _ x => x
theorem FR.le {h : Heap} {σ' : AS} (F : FR h₀ env ρ σ h) (l : AS.le σ' σ) : FR h₀ env ρ σ' h := F.of_keep (.refl _) (fun _ _ _ e => e) fun b q => by
  cases e : σ' b with
  | none => rfl
  | some o => have := l b o e; rw [F.ap b q] at this; cases this
theorem Exs.forget {e : List Stmt} {Q : AF → Rho → AS → Prop} (h : Exs prog w h₀ n env ρ σ e fun f r σ' => ∃ σ₁, AS.le σ₁ σ' ∧ Q f r σ₁) : Exs prog w h₀ n env ρ σ e Q :=
  fun A s ok r F => wpAny_mono (h A s ok r F) (fun _ _ ⟨v, r', σ', p, x, y, σ₁, l, q⟩ => ⟨v, r', σ₁, p.weaken l, x.le l, y, q⟩) fun _ _ x => x

/-! names and constants -/
structure Top0 (h₀ : Heap) (mg mb : Str → Option Value) : Prop where
  g : h₀.Ns mainGlobals mg
  b : h₀.Ns builtinsNs mb
  builtins : ∀ x : Str, x ≠ "__name__" → mb x = bootBuiltins x
  nolimit : h₀.NoLimit
  digits : ∃ mc, h₀.Ns cStatics mc ∧ mc "sys.int_max_str_digits" = none

theorem Rel.ns {σ : AS} {h : Heap} (r : Rel prog w h₀ σ h) {a : Addr} {m : Str → Option Value} (x : h₀.Ns a m) : h.Ns a m := x.keeps r.base

theorem Ev_local {x : Str} {pos : Pos} {v : AV} {Q : AV → AS → Prop} (hv : ρ x = some v) (hx : env.kindOf x = some .local) (h : Q v σ) (hd : (x == ("__debug__" : Str)) = false := by decide) : Ev prog w h₀ n env ρ σ (.Name x pos) Q := fun A s ok r F => by
  obtain ⟨m, hm, ho⟩ := F.ns
  have := ho x hx
  rw [hv] at this
  cases e : m x with
  | none => rw [e] at this; exact this.elim
  | some a => rw [e] at this; exact wpAny_Name (wpAny_loadName_local F.kind hx hm e ⟨v, σ, .refl r fun _ d => d, this, h⟩) hd
theorem Ev_cell {x : Str} {pos : Pos} {v : AV} {c : Addr} {Q : AV → AS → Prop} (hv : ρ x = some v) (hx : env.kindOf x = some .cell) (hc : env.cells.lookup x = some c) (h : Q v σ) (hd : (x == ("__debug__" : Str)) = false := by decide) : Ev prog w h₀ n env ρ σ (.Name x pos) Q := fun A s ok r F => by
  obtain ⟨m, hm, ho⟩ := F.cell x c hc
  have := ho (.inl hx)
  rw [hv] at this
  cases e : m with
  | none => rw [e] at this; exact this.elim
  | some a => rw [e] at this hm; exact wpAny_Name (wpAny_loadName_cell F.kind hx hc hm ⟨v, σ, .refl r fun _ d => d, this, h⟩) hd
theorem Ev_global {x : Str} {pos : Pos} {v : Value} {mg mb : Str → Option Value} {Q : AV → AS → Prop} (T : Top0 h₀ mg mb) (hv : mg x = some v) (hx : env.kindOf x = some .globalImplicit) (h : Q (.raw v) σ) (hd : (x == ("__debug__" : Str)) = false := by decide) :
    Ev prog w h₀ n env ρ σ (.Name x pos) Q := fun A s ok r F =>
  Calls.Name_function_global F.kind hx (Calls.loadGlobal_global (by rw [F.glob]; exact r.ns T.g) hv ⟨_, σ, .refl r fun _ d => d, .raw v, h⟩) hd
theorem Ev_builtin {x : Str} {pos : Pos} {v : Value} {mg mb : Str → Option Value} {Q : AV → AS → Prop} (T : Top0 h₀ mg mb) (hn : mg x = none) (hv : bootBuiltins x = some v) (hx : env.kindOf x = some .globalImplicit) (h : Q (.raw v) σ)
    (h1 : x ≠ "__name__" := by decide) (hd : (x == ("__debug__" : Str)) = false := by decide) :
    Ev prog w h₀ n env ρ σ (.Name x pos) Q := fun A s ok r F =>
  Calls.Name_function_global F.kind hx (Calls.loadGlobal_builtin (by rw [F.glob]; exact r.ns T.g) hn (by rw [F.blt]; exact r.ns T.b) ((T.builtins x h1).trans hv) ⟨_, σ, .refl r fun _ d => d, .raw v, h⟩) hd

theorem Ev_int {i : Int} {k : Nat} {pos : Pos} {Q : AV → AS → Prop} (h : Q (.int i) σ) : Ev prog w h₀ n env ρ σ (.Constant (.int i) k pos) Q := fun A s ok r F =>
  wpAny_Constant_int ⟨_, σ, toks_post r _, .int _ _, h⟩
theorem Ev_bool {i : Bool} {k : Nat} {pos : Pos} {Q : AV → AS → Prop} (h : Q (.bool i) σ) : Ev prog w h₀ n env ρ σ (.Constant (.bool i) k pos) Q := fun A s ok r F =>
  Constant_bool ⟨_, σ, .refl r fun _ d => d, .bool _, h⟩
theorem Ev_none {k : Nat} {pos : Pos} {Q : AV → AS → Prop} (h : Q .none σ) : Ev prog w h₀ n env ρ σ (.Constant .none k pos) Q := fun A s ok r F =>
  Constant_none ⟨_, σ, .refl r fun _ d => d, .none, h⟩
theorem Ev_str {x : Str} {k : Nat} {pos : Pos} {Q : AV → AS → Prop} (h : Q (.str x) σ) : Ev prog w h₀ n env ρ σ (.Constant (.str x) k pos) Q := fun A s ok r F =>
  Calls.Constant_str ⟨_, σ, toks_post r _, .str _ _, h⟩

/-! expressions -/
theorem Ev_bin {l r : Expr} {op : Operator} {pos : Pos} {Q : AV → AS → Prop} (h : Ev prog w h₀ n env ρ σ l fun v₁ σ₁ => Ev prog w h₀ n env ρ σ₁ r fun v₂ σ₂ => Bin prog w h₀ n σ₂ op v₁ v₂ Q) :
    Ev prog w h₀ n env ρ σ (.BinOp l op r pos) Q := fun A s ok rl F =>
  wpAny_BinOp (wpAny_mono (h A s ok rl F) (fun a s₁ ⟨v₁, σ₁, p₁, r₁, h₁⟩ => wpAny_mono (h₁ A s₁ ok p₁.rel (F.post p₁)) (fun b s₂ ⟨v₂, σ₂, p₂, r₂, h₂⟩ =>
    wpAny_mono (h₂ A s₂ a b ok p₂.rel (p₂.vr r₁) r₂) (fun c s₃ ⟨v₃, σ₃, p₃, r₃, h₃⟩ => ⟨v₃, σ₃, (p₁.trans' p₂).trans' p₃, r₃, h₃⟩) fun _ _ x => x) fun _ _ x => x) fun _ _ x => x)
theorem Ev_cmp {l r : Expr} {op : CmpOp} {pos : Pos} {Q : AV → AS → Prop} (h : Ev prog w h₀ n env ρ σ l fun v₁ σ₁ => Ev prog w h₀ n env ρ σ₁ r fun v₂ σ₂ => Cmp prog w h₀ n σ₂ op v₁ v₂ Q)
    (hm : behindInMarks op r = false := by with_unfolding_all rfl) :
    Ev prog w h₀ n env ρ σ (.Compare l [op] [r] pos) Q := fun A s ok rl F =>
  wpAny_Compare1 (wpAny_mono (h A s ok rl F) (fun a s₁ ⟨v₁, σ₁, p₁, r₁, h₁⟩ => wpAny_mono (h₁ A s₁ ok p₁.rel (F.post p₁)) (fun b s₂ ⟨v₂, σ₂, p₂, r₂, h₂⟩ =>
    wpAny_mono (h₂ A s₂ a b ok p₂.rel (p₂.vr r₁) r₂) (fun c s₃ ⟨v₃, σ₃, p₃, r₃, h₃⟩ => ⟨v₃, σ₃, (p₁.trans' p₂).trans' p₃, r₃, h₃⟩) fun _ _ x => x) fun _ _ x => x) fun _ _ x => x) hm
theorem Ev_un {l : Expr} {op : UnaryOp} {pos : Pos} {Q : AV → AS → Prop} (h : Ev prog w h₀ n env ρ σ l fun v₁ σ₁ => Un prog w h₀ n σ₁ op v₁ Q) :
    Ev prog w h₀ n env ρ σ (.UnaryOp op l pos) Q := fun A s ok rl F =>
  wpAny_UnaryOp (wpAny_mono (h A s ok rl F) (fun a s₁ ⟨v₁, σ₁, p₁, r₁, h₁⟩ =>
    wpAny_mono (h₁ A s₁ a ok p₁.rel r₁) (fun c s₃ ⟨v₃, σ₃, p₃, r₃, h₃⟩ => ⟨v₃, σ₃, p₁.trans' p₃, r₃, h₃⟩) fun _ _ x => x) fun _ _ x => x)
theorem Ev_ifexp {t b o : Expr} {pos : Pos} {Q : AV → AS → Prop} (h : Tr prog w h₀ n env ρ σ t fun c σ₁ => if c then Ev prog w h₀ n env ρ σ₁ b Q else Ev prog w h₀ n env ρ σ₁ o Q) :
    Ev prog w h₀ n env ρ σ (.IfExp t b o pos) Q := fun A s ok rl F =>
  wpAny_IfExp (wpAny_mono (h A s ok rl F) (fun c s₁ ⟨σ₁, p₁, h₁⟩ => by
    cases c with
    | true => exact wpAny_mono (h₁ A s₁ ok p₁.rel (F.post p₁)) (fun c s₃ ⟨v₃, σ₃, p₃, r₃, h₃⟩ => ⟨v₃, σ₃, p₁.trans' p₃, r₃, h₃⟩) fun _ _ x => x
    | false => exact wpAny_mono (h₁ A s₁ ok p₁.rel (F.post p₁)) (fun c s₃ ⟨v₃, σ₃, p₃, r₃, h₃⟩ => ⟨v₃, σ₃, p₁.trans' p₃, r₃, h₃⟩) fun _ _ x => x) fun _ _ x => x)
theorem Ev_one {op : BoolOp} {e : Expr} {pos : Pos} {Q : AV → AS → Prop} (h : Ev prog w h₀ n env ρ σ e Q) : Ev prog w h₀ n env ρ σ (.BoolOp op [e] pos) Q := fun A s ok rl F => BoolOp_one (h A s ok rl F)
theorem Ev_and {e₁ e₂ : Expr} {rest : List Expr} {pos : Pos} {Q : AV → AS → Prop} (h : Ev prog w h₀ n env ρ σ e₁ fun v σ₁ => Truthy prog w h₀ n σ₁ v fun c σ₂ => if c then Ev prog w h₀ n env ρ σ₂ (.BoolOp .And (e₂ :: rest) pos) Q else Q v σ₂) :
    Ev prog w h₀ n env ρ σ (.BoolOp .And (e₁ :: e₂ :: rest) pos) Q := fun A s ok rl F =>
  BoolOp_and (wpAny_mono (h A s ok rl F) (fun a s₁ ⟨v₁, σ₁, p₁, r₁, h₁⟩ => wpAny_mono (h₁ A s₁ a ok p₁.rel r₁) (fun c s₂ ⟨σ₂, p₂, h₂⟩ => by
    have p := p₁.trans' p₂
    cases c with
    | true => exact wpAny_mono (h₂ A s₂ ok p₂.rel (F.post p)) (fun c s₃ ⟨v₃, σ₃, p₃, r₃, h₃⟩ => ⟨v₃, σ₃, p.trans' p₃, r₃, h₃⟩) fun _ _ x => x
    | false => exact ⟨v₁, σ₂, p, p₂.vr r₁, h₂⟩) fun _ _ x => x) fun _ _ x => x)
theorem Ev_or {e₁ e₂ : Expr} {rest : List Expr} {pos : Pos} {Q : AV → AS → Prop} (h : Ev prog w h₀ n env ρ σ e₁ fun v σ₁ => Truthy prog w h₀ n σ₁ v fun c σ₂ => if c then Q v σ₂ else Ev prog w h₀ n env ρ σ₂ (.BoolOp .Or (e₂ :: rest) pos) Q) :
    Ev prog w h₀ n env ρ σ (.BoolOp .Or (e₁ :: e₂ :: rest) pos) Q := fun A s ok rl F =>
  BoolOp_or (wpAny_mono (h A s ok rl F) (fun a s₁ ⟨v₁, σ₁, p₁, r₁, h₁⟩ => wpAny_mono (h₁ A s₁ a ok p₁.rel r₁) (fun c s₂ ⟨σ₂, p₂, h₂⟩ => by
    have p := p₁.trans' p₂
    cases c with
    | false => exact wpAny_mono (h₂ A s₂ ok p₂.rel (F.post p)) (fun c s₃ ⟨v₃, σ₃, p₃, r₃, h₃⟩ => ⟨v₃, σ₃, p.trans' p₃, r₃, h₃⟩) fun _ _ x => x
    | true => exact ⟨v₁, σ₂, p, p₂.vr r₁, h₂⟩) fun _ _ x => x) fun _ _ x => x)

/-! tests -/
theorem Tr_cmp {l r : Expr} {op : CmpOp} {pos : Pos} {Q : Bool → AS → Prop} (h : Ev prog w h₀ n env ρ σ l fun v₁ σ₁ => Ev prog w h₀ n env ρ σ₁ r fun v₂ σ₂ => Cmp prog w h₀ n σ₂ op v₁ v₂ fun v σ₃ => Truthy prog w h₀ n σ₃ v Q)
    (hm : behindInMarks op r = false := by with_unfolding_all rfl) :
    Tr prog w h₀ n env ρ σ (.Compare l [op] [r] pos) Q := fun A s ok rl F =>
  wpAny_isTrue_Compare1 (wpAny_mono (h A s ok rl F) (fun a s₁ ⟨v₁, σ₁, p₁, r₁, h₁⟩ => wpAny_mono (h₁ A s₁ ok p₁.rel (F.post p₁)) (fun b s₂ ⟨v₂, σ₂, p₂, r₂, h₂⟩ =>
    wpAny_mono (h₂ A s₂ a b ok p₂.rel (p₂.vr r₁) r₂) (fun c s₃ ⟨v₃, σ₃, p₃, r₃, h₃⟩ => wpAny_mono (h₃ A s₃ c ok p₃.rel r₃) (fun t s₄ ⟨σ₄, p₄, h₄⟩ => ⟨σ₄, ((p₁.trans' p₂).trans' p₃).trans' p₄, h₄⟩) fun _ _ x => x) fun _ _ x => x) fun _ _ x => x) fun _ _ x => x) hm
theorem Tr_not {x : Expr} {pos : Pos} {Q : Bool → AS → Prop} (h : Tr prog w h₀ n env ρ σ x fun c σ' => Q (!c) σ') : Tr prog w h₀ n env ρ σ (.UnaryOp .Not x pos) Q := fun A s ok rl F =>
  isTrue_not (wpAny_mono (h A s ok rl F) (fun c s₁ ⟨σ₁, p₁, h₁⟩ => ⟨σ₁, p₁, h₁⟩) fun _ _ x => x)
theorem Tr_and {x : Expr} {rest : List Expr} {pos : Pos} {Q : Bool → AS → Prop} (h : Tr prog w h₀ n env ρ σ x fun c σ₁ => if c then Tr prog w h₀ n env ρ σ₁ (.BoolOp .And rest pos) Q else Q false σ₁) :
    Tr prog w h₀ n env ρ σ (.BoolOp .And (x :: rest) pos) Q := fun A s ok rl F =>
  isTrue_and (wpAny_mono (h A s ok rl F) (fun c s₁ ⟨σ₁, p₁, h₁⟩ => by
    cases c with
    | true => exact wpAny_mono (h₁ A s₁ ok p₁.rel (F.post p₁)) (fun c s₃ ⟨σ₃, p₃, h₃⟩ => ⟨σ₃, p₁.trans' p₃, h₃⟩) fun _ _ x => x
    | false => exact ⟨σ₁, p₁, h₁⟩) fun _ _ x => x)
theorem Tr_or {x : Expr} {rest : List Expr} {pos : Pos} {Q : Bool → AS → Prop} (h : Tr prog w h₀ n env ρ σ x fun c σ₁ => if c then Q true σ₁ else Tr prog w h₀ n env ρ σ₁ (.BoolOp .Or rest pos) Q) :
    Tr prog w h₀ n env ρ σ (.BoolOp .Or (x :: rest) pos) Q := fun A s ok rl F =>
  isTrue_or (wpAny_mono (h A s ok rl F) (fun c s₁ ⟨σ₁, p₁, h₁⟩ => by
    cases c with
    | false => exact wpAny_mono (h₁ A s₁ ok p₁.rel (F.post p₁)) (fun c s₃ ⟨σ₃, p₃, h₃⟩ => ⟨σ₃, p₁.trans' p₃, h₃⟩) fun _ _ x => x
    | true => exact ⟨σ₁, p₁, h₁⟩) fun _ _ x => x)
theorem Tr_and_nil {pos : Pos} {Q : Bool → AS → Prop} (h : Q true σ) : Tr prog w h₀ n env ρ σ (.BoolOp .And [] pos) Q := fun A s ok rl F => isTrue_and_nil ⟨σ, .refl rl fun _ d => d, h⟩
theorem Tr_or_nil {pos : Pos} {Q : Bool → AS → Prop} (h : Q false σ) : Tr prog w h₀ n env ρ σ (.BoolOp .Or [] pos) Q := fun A s ok rl F => isTrue_or_nil ⟨σ, .refl rl fun _ d => d, h⟩
theorem Tr_plain {e : Expr} {Q : Bool → AS → Prop} (h : Ev prog w h₀ n env ρ σ e fun v σ₁ => Truthy prog w h₀ n σ₁ v Q)
    (he : isTrue e env (eval e env) = (do let v ← eval e env; standAt e.pos; holding [v] (truthy v)) := by rfl) : Tr prog w h₀ n env ρ σ e Q := fun A s ok rl F =>
  isTrue_plain (wpAny_mono (h A s ok rl F) (fun a s₁ ⟨v₁, σ₁, p₁, r₁, h₁⟩ => wpAny_mono (h₁ A s₁ a ok p₁.rel r₁) (fun c s₂ ⟨σ₂, p₂, h₂⟩ => ⟨σ₂, p₁.trans' p₂, h₂⟩) fun _ _ x => x) fun _ _ x => x) he

theorem Truthy_bool {b : Bool} {Q : Bool → AS → Prop} (h : Q b σ) : Truthy prog w h₀ n σ (.bool b) Q := fun A s a ok rl x => by
  cases x; exact wpAny_truthy_bool ⟨σ, .refl rl fun _ d => d, h⟩

/-! displays and arguments -/
theorem Evs_nil {Q : List AV → AS → Prop} (h : Q [] σ) : Evs prog w h₀ n env ρ σ [] Q := fun A s pos ok rl F => args_nil ⟨[], σ, .refl rl fun _ d => d, .nil, h⟩
theorem Evs_cons {e : Expr} {es : List Expr} {Q : List AV → AS → Prop} (h : Ev prog w h₀ n env ρ σ e fun v σ₁ => Evs prog w h₀ n env ρ σ₁ es fun vs σ₂ => Q (v :: vs) σ₂)
    (he : starEach (e :: es) env = (false, eval e env) :: starEach es env := by rfl) : Evs prog w h₀ n env ρ σ (e :: es) Q := fun A s pos ok rl F =>
  args_cons (wpAny_mono (h A s ok rl F) (fun a s₁ ⟨v₁, σ₁, p₁, r₁, h₁⟩ => wpAny_mono (h₁ A s₁ pos ok p₁.rel (F.post p₁)) (fun as s₂ ⟨vs, σ₂, p₂, r₂, h₂⟩ =>
    ⟨v₁ :: vs, σ₂, p₁.trans' p₂, .cons (p₂.vr r₁) r₂, h₂⟩) fun _ _ x => x) fun _ _ x => x) he

theorem get_push_new (h : Heap) {o : Obj} : h.get? h.objs.size = none := by
  cases e : h.get? h.objs.size with
  | none => rfl
  | some o' => exact absurd (Heap.lt_size e) (Nat.lt_irrefl _)

theorem Ev_list {es : List Expr} {pos : Pos} {Q : AV → AS → Prop} (h : Evs prog w h₀ n env ρ σ es fun vs σ₁ => vs.length ≤ sizeLine ∧ ∀ a, σ₁ a = none → h₀.get? a = none → Q (.obj a) (σ₁.set a (.list vs))) : Ev prog w h₀ n env ρ σ (.List es pos) Q := fun A s ok rl F =>
  List_ (wpAny_mono (h A s pos ok rl F) (fun as s₁ ⟨vs, σ₁, p₁, r₁, hz, h₁⟩ => by
    have hl := r₁.length
    have hnew : s₁.heap.get? s₁.heap.objs.size = none := get_push_new s₁.heap (o := default)
    have hp := new_post (prog := prog) (w := w) (n := s₁.toks) p₁.rel (h' := s₁.heap.push { cls := .type "list", data := .seq as.toArray }) (o := .list vs) hnew (fun b o e => Heap.get?_push_of_some _ e)
      ⟨as.toArray, ⟨_, Heap.get?_push_size _ rfl⟩, by simpa using r₁.mono (fun _ _ ⟨o, h1, r⟩ => ⟨o, Heap.get?_push_of_some _ h1, r⟩)⟩
    have h0 : h₀.get? s₁.heap.objs.size = none := hp.rel.apart _ _ (AS.set_same ..)
    exact wpAny_newObj_type ⟨_, _, p₁.trans' hp, .obj _, h₁ _ (p₁.rel.none_of_new hnew) h0⟩ (by show as.toArray.size ≤ sizeLine; rw [List.size_toArray, ← hl]; exact hz)) fun _ _ x => x)
theorem Ev_tuple {es : List Expr} {k : Nat} {pos : Pos} {Q : AV → AS → Prop} (h : Evs prog w h₀ n env ρ σ es fun vs σ₁ => vs.length ≤ sizeLine ∧ Q (.tup vs) σ₁) : Ev prog w h₀ n env ρ σ (.Tuple es k pos) Q := fun A s ok rl F =>
  Tuple_ (wpAny_mono (h A s pos ok rl F) (fun as s₁ ⟨vs, σ₁, p₁, r₁, hz, h₁⟩ => by
    have hl := r₁.length
    have hp := keeps_post (prog := prog) (w := w) (n := s₁.toks) p₁.rel (h' := s₁.heap.push { cls := .type "tuple", data := .seq as.toArray }) (fun b o e => Heap.get?_push_of_some _ e)
    exact wpAny_newObj_type ⟨_, _, p₁.trans' hp, .tup ⟨_, Heap.get?_push_size _ rfl, rfl, _, rfl⟩ (hp.vrs r₁), h₁⟩ (by show as.toArray.size ≤ sizeLine; rw [List.size_toArray, ← hl]; exact hz)) fun _ _ x => x)
end
-- Fw4
section
variable {prog : Program} {w : World} {h₀ : Heap} {n : Nat} {env : Env} {ρ : Rho} {σ : AS} {K : Frag}

/-! calls of a value that is no object of the heap -/
theorem Ev_callv {func e : Expr} {rest : List Expr} {pos : Pos} {Q : AV → AS → Prop}
    (h : Ev prog w h₀ n env ρ σ func fun f σ₁ => ∃ v, f = .raw v ∧ keeperOf v = pure .machine ∧ Evs prog w h₀ n env ρ σ₁ (e :: rest) fun vs σ₂ => Cl prog w h₀ n σ₂ (.raw v) vs Q)
    (hc : eval (.Call func (e :: rest) [] pos) env = (do callWith pos (← eval func env) [] (backTo pos (starEach (e :: rest) env)) (backToKw pos (keywordEach [] env))) := by rfl)
    (he : starEach (e :: rest) env = (false, eval e env) :: starEach rest env := by rfl) (hplain : (backTo pos (starEach rest env)).any (·.1) = false := by rfl) :
    Ev prog w h₀ n env ρ σ (.Call func (e :: rest) [] pos) Q := fun A s ok rl F =>
  Call_ (wpAny_mono (h A s ok rl F) (fun f s₁ ⟨v₁, σ₁, p₁, r₁, v, e₁, hk, h₁⟩ => by
    subst e₁
    cases r₁
    have g := h₁ A s₁ pos ok p₁.rel (F.post p₁)
    rw [he] at g ⊢
    refine callWith_of (P := fun _ => True) (by show ((false || (backTo pos (starEach rest env)).any (·.1)) || false) = false; rw [hplain]; rfl) (fun _ _ => ⟨.machine, .inr (.inl rfl), Looks.of_pure hk⟩) (Calls.evalArgs_plain (wpAny_mono g (fun as s₂ ⟨vs, σ₂, p₂, r₂, h₂⟩ => ⟨trivial, ?_⟩) fun _ _ x => x))
    exact wpAny_mono (h₂ A s₂ f as ok p₂.rel (.raw f) r₂) (fun c s₃ ⟨v₃, σ₃, p₃, r₃, h₃⟩ => ⟨v₃, σ₃, (p₁.trans' p₂).trans' p₃, r₃, h₃⟩) fun _ _ x => x) fun _ _ x => x) hc

theorem Rel.frag {σ : AS} {h : Heap} (r : Rel prog w h₀ σ h) (X : K.In h₀) : K.In h := X.keeps r.base

theorem Ev_callK {func e : Expr} {rest : List Expr} {pos : Pos} {Q : AV → AS → Prop} (X : K.In h₀)
    (h : Ev prog w h₀ n env ρ σ func fun f σ₁ => ∃ v, f = .raw v ∧ keepIn K v = true ∧ Evs prog w h₀ n env ρ σ₁ (e :: rest) fun vs σ₂ => Cl prog w h₀ n σ₂ (.raw v) vs Q)
    (hc : eval (.Call func (e :: rest) [] pos) env = (do callWith pos (← eval func env) [] (backTo pos (starEach (e :: rest) env)) (backToKw pos (keywordEach [] env))) := by rfl)
    (he : starEach (e :: rest) env = (false, eval e env) :: starEach rest env := by rfl) (hplain : (backTo pos (starEach rest env)).any (·.1) = false := by rfl) :
    Ev prog w h₀ n env ρ σ (.Call func (e :: rest) [] pos) Q := fun A s ok rl F =>
  Call_ (wpAny_mono (h A s ok rl F) (fun f s₁ ⟨v₁, σ₁, p₁, r₁, v, e₁, hk, h₁⟩ => by
    subst e₁
    cases r₁
    have g := h₁ A s₁ pos ok p₁.rel (F.post p₁)
    rw [he] at g ⊢
    refine callWith_of (P := K.In) (by show ((false || (backTo pos (starEach rest env)).any (·.1)) || false) = false; rw [hplain]; rfl) (keeps_K hk) (Calls.evalArgs_plain (wpAny_mono g (fun as s₂ ⟨vs, σ₂, p₂, r₂, h₂⟩ => ⟨p₂.rel.frag X, ?_⟩) fun _ _ x => x))
    exact wpAny_mono (h₂ A s₂ f as ok p₂.rel (.raw f) r₂) (fun c s₃ ⟨v₃, σ₃, p₃, r₃, h₃⟩ => ⟨v₃, σ₃, (p₁.trans' p₂).trans' p₃, r₃, h₃⟩) fun _ _ x => x) fun _ _ x => x) hc
theorem Ev_callK0 {func : Expr} {pos : Pos} {Q : AV → AS → Prop} (X : K.In h₀)
    (h : Ev prog w h₀ n env ρ σ func fun f σ₁ => ∃ v, f = .raw v ∧ keepIn K v = true ∧ Cl prog w h₀ n σ₁ (.raw v) [] Q)
    (hc : eval (.Call func [] [] pos) env = (do callWith pos (← eval func env) [] (backTo pos (starEach [] env)) (backToKw pos (keywordEach [] env))) := by rfl) :
    Ev prog w h₀ n env ρ σ (.Call func [] [] pos) Q := fun A s ok rl F =>
  Call_ (wpAny_mono (h A s ok rl F) (fun f s₁ ⟨v₁, σ₁, p₁, r₁, v, e₁, hk, h₁⟩ => by
    subst e₁
    cases r₁
    refine callWith_K0 (p₁.rel.frag X) hk ?_
    exact wpAny_mono (h₁ A s₁ f [] ok p₁.rel (.raw f) .nil) (fun c s₃ ⟨v₃, σ₃, p₃, r₃, h₃⟩ => ⟨v₃, σ₃, p₁.trans' p₃, r₃, h₃⟩) fun _ _ x => x) fun _ _ x => x) hc

noncomputable def Meth (prog : Program) (w : World) (h₀ : Heap) (n : Nat) (σ : AS) (o : AV) (x : Str) (Q : Value → List AV → Prop) : Prop :=
  ∀ A s a pl, Ok n A → Rel prog w h₀ σ s.heap → VR s.heap o a → wpAny (model prog w) A (getMethod a x pl) (fun r s' => ∃ first, s' = s ∧ VRs s.heap first r.2 ∧ Q r.1 first) NoE s

theorem Ev_mcall {o : Expr} {x : Str} {apos pos : Pos} {e : Expr} {rest : List Expr} {pl : Sem Bool} {Q : AV → AS → Prop} (X : K.In h₀)
    (h : Ev prog w h₀ n env ρ σ o fun ov σ₁ => Meth prog w h₀ n σ₁ ov x fun f first => (keeperOf f = pure .machine ∨ keepIn K f = true) ∧ Evs prog w h₀ n env ρ σ₁ (e :: rest) fun vs σ₂ => Cl prog w h₀ n σ₂ (.raw f) (first ++ vs) Q)
    (hc : eval (.Call (.Attribute o x apos) (e :: rest) [] pos) env = (do
      let ov ← eval o env
      standAt apos.atName
      let (f, first) ← holding [ov] (getMethod ov x pl)
      callWith pos f first (backTo pos (starEach (e :: rest) env)) (backToKw pos (keywordEach [] env))) := by rfl)
    (he : starEach (e :: rest) env = (false, eval e env) :: starEach rest env := by rfl) (hplain : (backTo pos (starEach rest env)).any (·.1) = false := by rfl) :
    Ev prog w h₀ n env ρ σ (.Call (.Attribute o x apos) (e :: rest) [] pos) Q := fun A s ok rl F => by
  refine methodCall_KW (pl := pl) (wpAny_mono (h A s ok rl F) (fun ov s₁ ⟨v₁, σ₁, p₁, r₁, h₁⟩ => wpAny_mono (h₁ A s₁ ov pl ok p₁.rel r₁) (fun fx s₂ z => ?_) fun _ _ x => x) fun _ _ x => x) hc
  obtain ⟨f, fv⟩ := fx
  obtain ⟨first, e₂, rf, hk, h₂⟩ := z
  subst e₂
  have g := h₂ A s₂ pos ok p₁.rel (F.post p₁)
  show wpAny _ A (callWith pos f fv (backTo pos (starEach (e :: rest) env)) []) _ _ _
  rw [he] at g ⊢
  have fin : ∀ as s₃, PL prog w h₀ (dom σ₁) s₂ (fun vs σ₂ => Cl prog w h₀ n σ₂ (.raw f) (first ++ vs) Q) as s₃ → wpAny (model prog w) A (call f (fv ++ as)) (PV prog w h₀ (dom σ) s Q) NoE s₃ := fun as s₃ ⟨vs, σ₂, p₂, r₂, h₃⟩ =>
    wpAny_mono (h₃ A s₃ f (fv ++ as) ok p₂.rel (.raw f) ((p₂.vrs rf).append r₂)) (fun c s₄ ⟨v₃, σ₃, p₃, r₃, h₃⟩ => ⟨v₃, σ₃, (p₁.trans' p₂).trans' p₃, r₃, h₃⟩) fun _ _ x => x
  rcases hk with hk | hk
  · exact callWith_of (P := fun _ => True) (by show ((false || (backTo pos (starEach rest env)).any (·.1)) || false) = false; rw [hplain]; rfl) (fun _ _ => ⟨.machine, .inr (.inl rfl), Looks.of_pure hk⟩) (Calls.evalArgs_plain (wpAny_mono g (fun as s₃ z => ⟨trivial, fin as s₃ z⟩) fun _ _ x => x))
  · exact callWith_of (P := K.In) (by show ((false || (backTo pos (starEach rest env)).any (·.1)) || false) = false; rw [hplain]; rfl) (keeps_K hk) (Calls.evalArgs_plain (wpAny_mono g (fun as s₃ z => ⟨by obtain ⟨_, _, p₂, _⟩ := z; exact p₂.rel.frag X, fin as s₃ z⟩) fun _ _ x => x))
theorem Ev_mcall0 {o : Expr} {x : Str} {apos pos : Pos} {pl : Sem Bool} {Q : AV → AS → Prop} (X : K.In h₀)
    (h : Ev prog w h₀ n env ρ σ o fun ov σ₁ => Meth prog w h₀ n σ₁ ov x fun f first => (keeperOf f = pure .machine ∨ keepIn K f = true) ∧ Cl prog w h₀ n σ₁ (.raw f) first Q)
    (hc : eval (.Call (.Attribute o x apos) [] [] pos) env = (do
      let ov ← eval o env
      standAt apos.atName
      let (f, first) ← holding [ov] (getMethod ov x pl)
      callWith pos f first (backTo pos (starEach [] env)) (backToKw pos (keywordEach [] env))) := by rfl) :
    Ev prog w h₀ n env ρ σ (.Call (.Attribute o x apos) [] [] pos) Q := fun A s ok rl F => by
  refine methodCall_KW (pl := pl) (wpAny_mono (h A s ok rl F) (fun ov s₁ ⟨v₁, σ₁, p₁, r₁, h₁⟩ => wpAny_mono (h₁ A s₁ ov pl ok p₁.rel r₁) (fun fx s₂ z => ?_) fun _ _ x => x) fun _ _ x => x) hc
  obtain ⟨f, fv⟩ := fx
  obtain ⟨first, e₂, rf, hk, h₂⟩ := z
  subst e₂
  have fin : wpAny (model prog w) A (call f (fv ++ [])) (PV prog w h₀ (dom σ) s Q) NoE s₂ := by
    rw [List.append_nil]
    exact wpAny_mono (h₂ A s₂ f fv ok p₁.rel (.raw f) rf) (fun c s₄ ⟨v₃, σ₃, p₃, r₃, h₃⟩ => ⟨v₃, σ₃, p₁.trans' p₃, r₃, h₃⟩) fun _ _ x => x
  show wpAny _ A (callWith pos f fv (backTo pos (starEach [] env)) []) _ _ _
  rcases hk with hk | hk
  · exact callWith_of (P := fun _ => True) rfl (fun _ _ => ⟨.machine, .inr (.inl rfl), Looks.of_pure hk⟩) (evalArgs_nil3 ⟨trivial, fin⟩)
  · exact callWith_K0 (p₁.rel.frag X) hk fin

theorem Meth_inst {x C d f : Addr} {m : List (Str × AV)} {name : Str} {Q : Value → List AV → Prop} (X : K.In h₀) (hx : σ x = some (.inst C d)) (hd : σ d = some (.ns m)) (hm : m.lookup name = none)
    (hg : plainGet K C name = true) (hf : findIn K (.ref C) name = some (some (.ref f))) (ht : isFn K (.ref f) = true) (h : Q (.ref f) [.obj x]) : Meth prog w h₀ n σ (.obj x) name Q := fun A s a pl ok rl r => by
  cases r
  have i1 := rl.at' _ _ hx
  obtain ⟨es, ne, i2, i3⟩ := rl.at' _ _ hd
  have hl := i3.2 name
  rw [hm] at hl
  exact method_fn (rl.frag X) (od := some (dictOf es ne)) ⟨i1, rfl, rfl, i2⟩ (plainGet_of hg).1 (plainGet_of hg).2 hf (beq_iff_eq.mp ht) (by show (lookIn name (dictOf es ne)).map _ = _; rw [lookIn_dict, hl]; rfl) ⟨[.obj x], rfl, .one (.obj x), h⟩
theorem Attr_inst {x C d : Addr} {m : List (Str × AV)} {name : Str} {v : AV} {Q : AV → AS → Prop} (X : K.In h₀) (hx : σ x = some (.inst C d)) (hd : σ d = some (.ns m)) (hm : m.lookup name = some v)
    (hg : plainGet K C name = true) (hh : hasDictIn K C = true) (ha : findIn K (.ref C) name = some none) (hv : ∀ h a, VR h v a → handedIn a = true) (h : Q v σ) : Attr prog w h₀ n σ (.obj x) name Q := fun A s a ok rl r => by
  cases r
  have i1 := rl.at' _ _ hx
  obtain ⟨es, ne, i2, i3⟩ := rl.at' _ _ hd
  have hl := i3.2 name
  rw [hm] at hl
  obtain ⟨a, hl, ra⟩ := hl
  exact get_value (rl.frag X) (od := some (dictOf es ne)) ⟨i1, rfl, rfl, i2⟩ (plainGet_of hg).1 (findObj_own hh ha rfl (by rw [lookIn_dict]; exact hl)) (hv _ _ ra) ⟨v, σ, toks_post rl _, ra, h⟩
theorem Ev_attr {value : Expr} {x : Str} {pos : Pos} {Q : AV → AS → Prop} (h : Ev prog w h₀ n env ρ σ value fun o σ₁ => Attr prog w h₀ n σ₁ o x Q)
    (he : eval (.Attribute value x pos) env = (do
      let o ← eval value env
      standAt pos.atName
      let r ← holding [o] (getAttr o x true)
      letTemporaryGo value o r
      pure r) := by with_unfolding_all rfl) : Ev prog w h₀ n env ρ σ (.Attribute value x pos) Q := fun A s ok rl F =>
  Attribute_any_ (wpAny_mono (h A s ok rl F) (fun a s₁ ⟨v₁, σ₁, p₁, r₁, h₁⟩ => wpAny_mono (h₁ A s₁ a ok p₁.rel r₁) (fun c s₃ ⟨v₃, σ₃, p₃, r₃, h₃⟩ => ⟨v₃, σ₃, p₁.trans' p₃, r₃, h₃⟩) fun _ _ x => x) fun _ _ x => x) he

/-! ints -/
theorem Bin_add {i j : Int} {Q : AV → AS → Prop} (h : Q (.int (i + j)) σ) : Bin prog w h₀ n σ .Add (.int i) (.int j) Q := fun A s a b ok rl x y => by
  cases x; cases y; exact wpAny_add_int ⟨_, σ, toks_post rl _, .int _ _, h⟩
theorem Bin_sub {i j : Int} {Q : AV → AS → Prop} (h : Q (.int (i - j)) σ) : Bin prog w h₀ n σ .Sub (.int i) (.int j) Q := fun A s a b ok rl x y => by
  cases x; cases y; exact sub_int ⟨_, σ, toks_post rl _, .int _ _, h⟩
theorem Bin_mul {i j : Int} {Q : AV → AS → Prop} (hm : IntMulOk i j) (h : Q (.int (i * j)) σ) : Bin prog w h₀ n σ .Mult (.int i) (.int j) Q := fun A s a b ok rl x y => by
  cases x; cases y; exact mul_int ⟨_, σ, toks_post rl _, .int _ _, h⟩ hm
theorem Bin_fdiv {i j : Int} {Q : AV → AS → Prop} (hj : j ≠ 0) (hs : j.natAbs < 1073741824) (h : Q (.int (i.fdiv j)) σ) : Bin prog w h₀ n σ .FloorDiv (.int i) (.int j) Q := fun A s a b ok rl x y => by
  cases x; cases y; exact floordiv_int hj ⟨_, σ, toks_post rl _, .int _ _, h⟩ (.inl (PyProof.noPylong_small hs))
theorem Bin_mod {i j : Int} {Q : AV → AS → Prop} (hj : j ≠ 0) (h : Q (.int (i.fmod j)) σ) : Bin prog w h₀ n σ .Mod (.int i) (.int j) Q := fun A s a b ok rl x y => by
  cases x; cases y; exact mod_int' hj ⟨_, σ, toks_post rl _, .int _ _, h⟩
theorem Bin_xor {i j : Int} {Q : AV → AS → Prop} (h : Q (.int (Builtin.bitXor i j)) σ) : Bin prog w h₀ n σ .BitXor (.int i) (.int j) Q := fun A s a b ok rl x y => by
  cases x; cases y; exact xor_int ⟨_, σ, toks_post rl _, .int _ _, h⟩
theorem Bin_and {i j : Int} {Q : AV → AS → Prop} (h : Q (.int (Builtin.bitAnd i j)) σ) : Bin prog w h₀ n σ .BitAnd (.int i) (.int j) Q := fun A s a b ok rl x y => by
  cases x; cases y; exact and_int ⟨_, σ, toks_post rl _, .int _ _, h⟩
theorem Bin_shr {i j : Int} {Q : AV → AS → Prop} (hj : 0 ≤ j) (h : Q (.int (i.fdiv (2 ^ j.toNat))) σ) : Bin prog w h₀ n σ .RShift (.int i) (.int j) Q := fun A s a b ok rl x y => by
  cases x; cases y; exact rshift_int hj ⟨_, σ, toks_post rl _, .int _ _, h⟩
theorem Bin_pow {i j : Int} {Q : AV → AS → Prop} (hj : 0 ≤ j) (hj2 : j ≤ 1000000) (hi : i.natAbs < 2 ^ 64) (h : Q (.int (i ^ j.toNat)) σ) : Bin prog w h₀ n σ .Pow (.int i) (.int j) Q := fun A s a b ok rl x y => by
  cases x; cases y; exact pow_int_small hj hj2 hi ⟨_, σ, toks_post rl _, .int _ _, h⟩
theorem Un_neg {i : Int} {Q : AV → AS → Prop} (h : Q (.int (-i)) σ) : Un prog w h₀ n σ .USub (.int i) Q := fun A s a ok rl x => by
  cases x; exact neg_int ⟨_, σ, toks_post rl _, .int _ _, h⟩
theorem Un_not {v : AV} {Q : AV → AS → Prop} (h : Truthy prog w h₀ n σ v fun c σ' => Q (.bool (!c)) σ') : Un prog w h₀ n σ .Not v Q := fun A s a ok rl x =>
  not_of (wpAny_mono (h A s a ok rl x) (fun c s' ⟨σ', p, q⟩ => ⟨_, σ', p, .bool _, q⟩) fun _ _ x => x)

theorem Cmp_ieq {i j : Int} {Q : AV → AS → Prop} (h : Q (.bool (i == j)) σ) : Cmp prog w h₀ n σ .Eq (.int i) (.int j) Q := fun A s a b ok rl x y => by
  cases x; cases y; exact wpAny_eq_int ⟨_, σ, .refl rl fun _ d => d, .bool _, h⟩
theorem Cmp_ilt {i j : Int} {Q : AV → AS → Prop} (h : Q (.bool (decide (i < j))) σ) : Cmp prog w h₀ n σ .Lt (.int i) (.int j) Q := fun A s a b ok rl x y => by
  cases x; cases y; exact wpAny_lt_int ⟨_, σ, .refl rl fun _ d => d, .bool _, h⟩
theorem Cmp_ige {i j : Int} {Q : AV → AS → Prop} (h : Q (.bool (decide (j ≤ i))) σ) : Cmp prog w h₀ n σ .GtE (.int i) (.int j) Q := fun A s a b ok rl x y => by
  cases x; cases y; exact ge_int ⟨_, σ, .refl rl fun _ d => d, .bool _, h⟩
theorem Cmp_beq {i j : Bool} {Q : AV → AS → Prop} (h : Q (.bool (i == j)) σ) : Cmp prog w h₀ n σ .Eq (.bool i) (.bool j) Q := fun A s a b ok rl x y => by
  cases x; cases y; exact eq_bool ⟨_, σ, .refl rl fun _ d => d, .bool _, h⟩
theorem Cmp_bne {i j : Bool} {Q : AV → AS → Prop} (h : Q (.bool (i != j)) σ) : Cmp prog w h₀ n σ .NotEq (.bool i) (.bool j) Q := fun A s a b ok rl x y => by
  cases x; cases y; exact ne_bool ⟨_, σ, .refl rl fun _ d => d, .bool _, h⟩
theorem Cmp_seq {i j : Str} {Q : AV → AS → Prop} (h : Q (.bool (i == j)) σ) : Cmp prog w h₀ n σ .Eq (.str i) (.str j) Q := fun A s a b ok rl x y => by
  cases x; cases y; exact eq_str ⟨_, σ, .refl rl fun _ d => d, .bool _, h⟩
theorem Cmp_sne {i j : Str} {Q : AV → AS → Prop} (h : Q (.bool (i != j)) σ) : Cmp prog w h₀ n σ .NotEq (.str i) (.str j) Q := fun A s a b ok rl x y => by
  cases x; cases y; exact ne_str ⟨_, σ, .refl rl fun _ d => d, .bool _, h⟩
theorem Cmp_slt {i j : Str} {Q : AV → AS → Prop} (h : Q (.bool (i.cps.toList < j.cps.toList)) σ) : Cmp prog w h₀ n σ .Lt (.str i) (.str j) Q := fun A s a b ok rl x y => by
  cases x; cases y; exact lt_str ⟨_, σ, .refl rl fun _ d => d, .bool _, h⟩
theorem Cl_abs {i : Int} {Q : AV → AS → Prop} (h : Q (.int (if i < 0 then -i else i)) σ) : Cl prog w h₀ n σ (.raw (.builtin "abs")) [.int i] Q := fun A s f as ok rl x y => by
  cases x
  cases y with | cons y ys => cases y; cases ys; exact call_abs_int fun u tk => ⟨_, σ, toks_post rl _, .int _ _, h⟩
theorem Cl_min {i j : Int} {Q : AV → AS → Prop} (h : Q (.int (if j < i then j else i)) σ) : Cl prog w h₀ n σ (.raw (.builtin "min")) [.int i, .int j] Q := fun A s f as ok rl x y => by
  cases x
  cases y with
  | cons y ys =>
    cases y
    cases ys with
    | cons y ys =>
      cases y; cases ys
      refine min_two_ints ok.handled fun h' tk hk => ⟨_, σ, keeps_post rl hk, ?_, h⟩
      split <;> exact .int _ _
theorem Cl_lenlist {a : Addr} {vs : List AV} {Q : AV → AS → Prop} (ha : σ a = some (.list vs)) (hz : vs.length < 2 ^ 62) (h : Q (.int vs.length) σ) : Cl prog w h₀ n σ (.raw (.builtin "len")) [.obj a] Q := fun A s f as ok rl x y => by
  cases x
  cases y with
  | cons y ys =>
    cases y; cases ys
    obtain ⟨items, i1, i2⟩ := rl.at' _ _ ha
    have e : vs.length = items.size := by simpa using i2.length
    exact len_list i1.isList (by omega) ⟨_, σ, toks_post rl _, by rw [← e]; exact .int _ _, h⟩
theorem Cl_lenstr {x : Str} {Q : AV → AS → Prop} (hz : x.length < 2 ^ 62) (h : Q (.int x.length) σ) : Cl prog w h₀ n σ (.raw (.builtin "len")) [.str x] Q := fun A s f as ok rl x y => by
  cases x
  cases y with
  | cons y ys => cases y; cases ys; exact len_str (by omega) ⟨_, σ, toks_post rl _, .int _ _, h⟩
end
-- Fw5
section
variable {prog : Program} {w : World} {h₀ : Heap} {n : Nat} {env : Env} {ρ : Rho} {σ : AS} {K : Frag}

/-! items -/
noncomputable def seqAt (vs : List AV) (k : Int) (v : AV) : Prop := -(2 ^ 63) ≤ k ∧ k < 2 ^ 63 ∧ ((0 ≤ k ∧ vs[k.toNat]? = some v) ∨ (k < 0 ∧ -(vs.length : Int) ≤ k ∧ vs[(k + vs.length).toNat]? = some v))

theorem Ev_sub {value slice : Expr} {pos : Pos} {Q : AV → AS → Prop}
    (h : Ev prog w h₀ n env ρ σ value fun o σ₁ => Ev prog w h₀ n env ρ σ₁ slice fun i σ₂ => ∃ a vs k v, o = .obj a ∧ i = .int k ∧ σ₂ a = some (.list vs) ∧ seqAt vs k v ∧ Q v σ₂)
    (hs : ∀ o i, subscripted slice false o i = operate [o, i] (getItem o i) := by intro _ _; with_unfolding_all rfl) :
    Ev prog w h₀ n env ρ σ (.Subscript value slice pos) Q := fun A s ok rl F =>
  Subscript_ (wpAny_mono (h A s ok rl F) (fun o s₁ ⟨v₁, σ₁, p₁, r₁, h₁⟩ => wpAny_mono (h₁ A s₁ ok p₁.rel (F.post p₁)) (fun i s₂ ⟨v₂, σ₂, p₂, r₂, a, vs, k, v, e₁, e₂, ha, hk, h₂⟩ => by
    subst e₁ e₂
    cases r₁; cases r₂
    obtain ⟨items, i1, i2⟩ := p₂.rel.at' _ _ ha
    have e : vs.length = items.size := by simpa using i2.length
    obtain ⟨k1, k2, hk⟩ := hk
    rcases hk with ⟨k3, k4⟩ | ⟨k3, k4, k5⟩
    · obtain ⟨x, hx, rx⟩ := i2.getL _ k4
      exact tail_any i1.isList.typeIs slot_list_getitem.lookup (wpAny_getItem_list i1.isList k3 k2 (by simpa using hx) ⟨v, σ₂, p₁.trans' p₂, rx, h₂⟩) (hs _ _)
    · obtain ⟨x, hx, rx⟩ := i2.getL _ k5
      exact tail_any i1.isList.typeIs slot_list_getitem.lookup (wpAny_getItem_list_neg i1.isList k3 (by omega) k1 (by rw [← e]; simpa using hx) ⟨v, σ₂, p₁.trans' p₂, rx, h₂⟩) (hs _ _)) fun _ _ x => x) fun _ _ x => x)

theorem Ev_subtup {value slice : Expr} {pos : Pos} {Q : AV → AS → Prop}
    (h : Ev prog w h₀ n env ρ σ value fun o σ₁ => Ev prog w h₀ n env ρ σ₁ slice fun i σ₂ => ∃ vs k v, o = .tup vs ∧ i = .int k ∧ 0 ≤ k ∧ k < 2 ^ 63 ∧ vs[k.toNat]? = some v ∧ Q v σ₂)
    (hs : ∀ o i, subscripted slice false o i = operate [o, i] (getItem o i) := by intro _ _; with_unfolding_all rfl) :
    Ev prog w h₀ n env ρ σ (.Subscript value slice pos) Q := fun A s ok rl F =>
  Subscript_ (wpAny_mono (h A s ok rl F) (fun o s₁ ⟨v₁, σ₁, p₁, r₁, h₁⟩ => wpAny_mono (h₁ A s₁ ok p₁.rel (F.post p₁)) (fun i s₂ ⟨v₂, σ₂, p₂, r₂, vs, k, v, e₁, e₂, k0, k1, k2, h₂⟩ => by
    subst e₁ e₂
    cases r₁ with
    | tup ht hs' =>
    cases r₂
    have ht' := p₂.tups _ _ ht
    obtain ⟨x, hx, rx⟩ := (p₂.vrs hs').getL _ k2
    have hl := hs'.length
    obtain ⟨hk, -⟩ := List.getElem?_eq_some_iff.mp hx
    exact tail_any (T := "tuple") ht'.typeIs slot_tuple_getitem.lookup (PyProof.Rows.getItem_tuple ht' (by omega) k1 (j := k.toNat) (by
      obtain ⟨j, rfl⟩ := Int.eq_ofNat_of_zero_le k0
      have : (j : Int).toNat = j := Int.toNat_natCast j
      rw [this] at hk ⊢
      show seqIndex? (Int.ofNat j) _ = some j
      unfold seqIndex?
      simp
      omega) (by simpa using hx) ⟨v, σ₂, p₁.trans' p₂, rx, h₂⟩) (hs _ _)) fun _ _ x => x) fun _ _ x => x)

/-! statements -/
theorem Exs_nil {Q : AF → Rho → AS → Prop} (h : Q .next ρ σ) : Exs prog w h₀ n env ρ σ [] Q := fun A s ok rl F => wpAny_execs_nil ⟨.next, ρ, σ, .refl rl fun _ d => .inl d, F, .next, h⟩
theorem Exs_cons {st : Stmt} {rest : List Stmt} {Q : AF → Rho → AS → Prop}
    (h : Ex prog w h₀ n env ρ σ st fun fl ρ₁ σ₁ => match fl with | .next => Exs prog w h₀ n env ρ₁ σ₁ rest Q | fl => Q fl ρ₁ σ₁) : Exs prog w h₀ n env ρ σ (st :: rest) Q := fun A s ok rl F =>
  wpAny_execs_cons (wpAny_mono (h A s ok rl F) (fun f s₁ ⟨fl, ρ₁, σ₁, p₁, F₁, r₁, h₁⟩ => by
    cases r₁ with
    | next => exact wpAny_mono (h₁ A s₁ ok p₁.rel F₁) (fun f s₂ ⟨fl, ρ₂, σ₂, p₂, F₂, r₂, h₂⟩ => ⟨fl, ρ₂, σ₂, p₁.trans p₂ (fun b q => q.elim .inr fun q => .inl (.inr q)), F₂, r₂, h₂⟩) fun _ _ x => x
    | brk => exact ⟨_, ρ₁, σ₁, p₁, F₁, .brk, h₁⟩
    | cont => exact ⟨_, ρ₁, σ₁, p₁, F₁, .cont, h₁⟩
    | ret x => exact ⟨_, ρ₁, σ₁, p₁, F₁, .ret x, h₁⟩) fun _ _ x => x)
theorem Ex_if {t : Expr} {b o : List Stmt} {pos : Pos} {Q : AF → Rho → AS → Prop} (h : Tr prog w h₀ n env ρ σ t fun c σ₁ => if c then Exs prog w h₀ n env ρ σ₁ b Q else Exs prog w h₀ n env ρ σ₁ o Q) :
    Ex prog w h₀ n env ρ σ (.If t b o pos) Q := fun A s ok rl F =>
  wpAny_If (wpAny_mono (h A s ok rl F) (fun c s₁ ⟨σ₁, p₁, h₁⟩ => by
    have fin : ∀ f s₂, PF prog w h₀ env σ₁ s₁ Q f s₂ → PF prog w h₀ env σ s Q f s₂ := fun f s₂ ⟨fl, ρ₂, σ₂, p₂, F₂, r₂, h₂⟩ =>
      ⟨fl, ρ₂, σ₂, (p₁.mono fun _ d => .inl d).trans p₂ (fun b q => q.elim .inr fun q => .inl (.inr q)), F₂, r₂, h₂⟩
    cases c with
    | true => exact wpAny_mono (h₁ A s₁ ok p₁.rel (F.post p₁)) fin fun _ _ x => x
    | false => exact wpAny_mono (h₁ A s₁ ok p₁.rel (F.post p₁)) fin fun _ _ x => x) fun _ _ x => x)
theorem Ex_ret {e : Expr} {pos : Pos} {Q : AF → Rho → AS → Prop} (h : Ev prog w h₀ n env ρ σ e fun v σ₁ => Q (.ret v) ρ σ₁) : Ex prog w h₀ n env ρ σ (.Return (some e) pos) Q := fun A s ok rl F =>
  wpAny_Return_some (wpAny_mono (h A s ok rl F) (fun a s₁ ⟨v, σ₁, p₁, r₁, h₁⟩ => ⟨.ret v, ρ, σ₁, p₁.mono fun _ d => .inl d, F.post p₁, .ret r₁, h₁⟩) fun _ _ x => x)
theorem Ex_continue {pos : Pos} {Q : AF → Rho → AS → Prop} (h : Q .cont ρ σ) : Ex prog w h₀ n env ρ σ (.Continue pos) Q := fun A s ok rl F => wpAny_Continue ⟨.cont, ρ, σ, .refl rl fun _ d => .inl d, F, .cont, h⟩
theorem Ex_expr {e : Expr} {pos : Pos} {Q : AF → Rho → AS → Prop} (h : Ev prog w h₀ n env ρ σ e fun v σ₁ => v = .none ∧ Q .next ρ σ₁)
    (hi : interactive env = false := by rfl) (hs : swapsWith e none pos.line env = pure false := by rfl) : Ex prog w h₀ n env ρ σ (.Expr e pos) Q := fun A s ok rl F =>
  wpAny_Expr (wpAny_mono (h A s ok rl F) (fun a s₁ ⟨v, σ₁, p₁, r₁, e₁, h₁⟩ => by
    subst e₁
    cases r₁
    exact ⟨.next, ρ, σ₁, p₁.mono fun _ d => .inl d, F.post p₁, .next, h₁⟩) fun _ _ x => x) hi hs

/-! stores into names -/
theorem tups_of' {U : Addr → Prop} {h h' : Heap} (hk : ∀ b o, ¬ U b → h.get? b = some o → h'.get? b = some o) (hu : ∀ b, U b → ∀ o, h.get? b = some o → ∀ items k, o.data ≠ .seq items k) : TupsKeep h h' := by
  rintro a items ⟨o, h1, h2, k, h3⟩
  by_cases q : U a
  · exact absurd h3 (hu a q o h1 _ _)
  · exact ⟨o, hk a o q h1, h2, k, h3⟩
theorem store_local {A : Around} {s : Shared} {x : Str} {v : AV} {a : Value} {Q : Rho → AS → Prop} (rl : Rel prog w h₀ σ s.heap) (F : FR h₀ env ρ σ s.heap) (r : VR s.heap v a) (hx : env.kindOf x = some .local)
    (h : Q (ρ.set x v) σ) : wpAny (model prog w) A (storeName env x a) (PN prog w h₀ env σ s Q) NoE s := by
  obtain ⟨m, hm, ho⟩ := F.ns
  refine wpAny_storeName_local hx hm (fun h' hn hs => ?_) (by rw [F.kind]; rfl)
  have hL := F.lap
  obtain ⟨oL, hoL⟩ := F.got _ (.inl rfl)
  have hk : ∀ b o, b ≠ env.locals → s.heap.get? b = some o → h'.get? b = some o := fun b o q e => hs.extBut b o q e
  have ht : TupsKeep s.heap h' := tups_of' (U := fun b => b = env.locals) (fun b o q e => hk b o q e) (fun b q o e items k hd => by
    subst q
    obtain ⟨m', ⟨o', es, ep, h1, h2, _⟩, _⟩ := F.ns
    rw [h1] at e; cases e
    rw [h2] at hd; cases hd)
  refine ⟨ρ.set x v, σ, ⟨⟨fun b o e => hk b o (fun q => by subst q; rw [F.lnew] at e; cases e) (rl.base b o e), rl.apart, fun b o e => (rl.at' b o e).mono ht fun ob => hk b ob fun q => by subst q; rw [hL] at e; cases e⟩,
    fun b o q e => hk b o (fun z => q (.inr (.inl z))) e, fun b o e q => absurd (.inl (dom_iff.mpr ⟨o, e⟩)) q, ht, fun b o e => by
      by_cases q : b = env.locals
      · subst q; obtain ⟨o', _, _, h1, _⟩ := hn; exact ⟨o', h1⟩
      · exact ⟨o, hk b o q e⟩, _, _, rfl⟩, ⟨⟨_, hn, fun y hy => ?_⟩, fun y c e => ?_, F.kind, F.glob, F.blt, F.lnew, F.cnew, F.lap, F.cap, F.cl, F.inj⟩, h⟩
  · unfold Rho.set
    by_cases q : y = x
    · rw [if_pos q, if_pos q]; exact r.mono ht
    · rw [if_neg q, if_neg q]; exact (ho y hy).mono ht
  · obtain ⟨v', ⟨o, h1, h2⟩, h3⟩ := F.cell y c e
    refine ⟨v', ⟨o, hk _ _ (F.cl y c e) h1, h2⟩, fun q => ?_⟩
    unfold Rho.set
    by_cases q' : y = x
    · subst q'; rw [hx] at q; rcases q with q | q <;> cases q
    · rw [if_neg q']; exact (h3 q).mono ht
theorem store_cell {A : Around} {s : Shared} {x : Str} {c : Addr} {v : AV} {a : Value} {Q : Rho → AS → Prop} (rl : Rel prog w h₀ σ s.heap) (F : FR h₀ env ρ σ s.heap) (r : VR s.heap v a) (hx : env.kindOf x = some .cell) (hc : env.cells.lookup x = some c)
    (h : Q (ρ.set x v) σ) : wpAny (model prog w) A (storeName env x a) (PN prog w h₀ env σ s Q) NoE s := by
  obtain ⟨v₀, hv₀, ho⟩ := F.cell x c hc
  refine wpAny_storeName_cell F.kind hx hc hv₀ (fun h' hn hs => ?_)
  have hcσ := F.cap x c hc
  have hk : ∀ b o, b ≠ c → s.heap.get? b = some o → h'.get? b = some o := fun b o q e => hs.extBut b o q e
  have ht : TupsKeep s.heap h' := tups_of' (U := fun b => b = c) (fun b o q e => hk b o q e) (fun b q o e items k hd => by
    subst q
    obtain ⟨o', h1, h2⟩ := hv₀
    rw [h1] at e; cases e
    rw [h2] at hd; cases hd)
  obtain ⟨m, hm, hom⟩ := F.ns
  refine ⟨ρ.set x v, σ, ⟨⟨fun b o e => hk b o (fun q => by subst q; rw [F.cnew x _ hc] at e; cases e) (rl.base b o e), rl.apart, fun b o e => (rl.at' b o e).mono ht fun ob => hk b ob fun q => by subst q; rw [hcσ] at e; cases e⟩,
    fun b o q e => hk b o (fun z => by subst z; exact q (.inr (.inr ⟨x, hc⟩))) e, fun b o e q => absurd (.inl (dom_iff.mpr ⟨o, e⟩)) q, ht, fun b o e => by
      by_cases q : b = c
      · subst q; obtain ⟨o', h1, _⟩ := hn; exact ⟨o', h1⟩
      · exact ⟨o, hk b o q e⟩, _, _, rfl⟩, ⟨⟨m, ?_, fun y hy => ?_⟩, fun y c' e => ?_, F.kind, F.glob, F.blt, F.lnew, F.cnew, F.lap, F.cap, F.cl, F.inj⟩, h⟩
  · exact hm.sameBut hs (Ne.symm (F.cl x c hc))
  · unfold Rho.set
    by_cases q : y = x
    · subst q; rw [hx] at hy; cases hy
    · rw [if_neg q]; exact (hom y hy).mono ht
  · by_cases q : c' = c
    · subst q
      have := F.inj y x c' e hc
      subst this
      refine ⟨_, hn, fun _ => ?_⟩
      unfold Rho.set
      rw [if_pos rfl]; exact r.mono ht
    · obtain ⟨v', ⟨o, h1, h2⟩, h3⟩ := F.cell y c' e
      refine ⟨v', ⟨o, hk _ _ q h1, h2⟩, fun q2 => ?_⟩
      unfold Rho.set
      by_cases q' : y = x
      · subst q'; rw [hc] at e; cases e; exact absurd rfl q
      · rw [if_neg q']; exact (h3 q2).mono ht

noncomputable def Home (env : Env) (x : Str) : Prop := env.kindOf x = some .local ∨ (env.kindOf x = some .cell ∧ (env.cells.lookup x).isSome = true)
theorem store_name {A : Around} {s : Shared} {x : Str} {v : AV} {a : Value} {Q : Rho → AS → Prop} (rl : Rel prog w h₀ σ s.heap) (F : FR h₀ env ρ σ s.heap) (r : VR s.heap v a) (hx : Home env x)
    (h : Q (ρ.set x v) σ) : wpAny (model prog w) A (storeName env x a) (PN prog w h₀ env σ s Q) NoE s := by
  rcases hx with hx | ⟨hx, hc⟩
  · exact store_local rl F r hx h
  · obtain ⟨c, hc⟩ := Option.isSome_iff_exists.mp hc
    exact store_cell rl F r hx hc h

theorem As_name {x : Str} {pos : Pos} {v : AV} {Q : Rho → AS → Prop} (hx : Home env x) (h : Q (ρ.set x v) σ) : As prog w h₀ n env ρ σ (.Name x pos) v Q := fun A s a ok rl F r =>
  PyProof.Rows.assign_Name (store_name rl F r hx h)

theorem PN.next {s s₁ : Shared} {σ₁ : AS} {Q : AF → Rho → AS → Prop} (p₁ : Post prog w h₀ (dom σ) s σ₁ s₁) : ∀ u s₂, PN prog w h₀ env σ₁ s₁ (fun ρ' σ' => Q .next ρ' σ') u s₂ → PF prog w h₀ env σ s Q .next s₂ :=
  fun _ s₂ ⟨ρ₂, σ₂, p₂, F₂, h₂⟩ => ⟨.next, ρ₂, σ₂, (p₁.mono fun _ d => .inl d).trans p₂ (fun b q => q.elim .inr fun q => .inl (.inr q)), F₂, .next, h₂⟩
theorem Ex_assign {x : Str} {pos' pos : Pos} {value : Expr} {Q : AF → Rho → AS → Prop} (h : Ev prog w h₀ n env ρ σ value fun v σ₁ => Q .next (ρ.set x v) σ₁) (hx : Home env x)
    (hs : swapsWith value (some (.Name x pos')) pos.line env = pure false := by rfl) : Ex prog w h₀ n env ρ σ (.Assign [.Name x pos'] value pos) Q := fun A s ok rl F =>
  wpAny_Assign_Name (wpAny_mono (h A s ok rl F) (fun a s₁ ⟨v, σ₁, p₁, r₁, h₁⟩ => wpAny_mono (store_name (Q := fun ρ' σ' => Q .next ρ' σ') p₁.rel (F.post p₁) r₁ hx h₁) (PN.next p₁) fun _ _ x => x) fun _ _ x => x) hs

theorem Ex_assign_tup {elts : List Expr} {k : Nat} {tpos pos : Pos} {value : Expr} {Q : AF → Rho → AS → Prop} (h : Ev prog w h₀ n env ρ σ value fun v σ₁ => As prog w h₀ n env ρ σ₁ (.Tuple elts k tpos) v fun ρ₂ σ₂ => Q .next ρ₂ σ₂)
    (hs : swapsWithSole [.Tuple elts k tpos] value pos.line env = pure false := by rfl)
    (hw : swappedStores [.Tuple elts k tpos] value env = pure none := by rfl) : Ex prog w h₀ n env ρ σ (.Assign [.Tuple elts k tpos] value pos) Q := fun A s ok rl F =>
  Assign_Tuple (wpAny_mono (h A s ok rl F) (fun a s₁ ⟨v, σ₁, p₁, r₁, h₁⟩ => wpAny_mono (h₁ A s₁ a ok p₁.rel (F.post p₁) r₁) (PN.next p₁) fun _ _ x => x) fun _ _ x => x) hs hw

theorem ext_post {s : Shared} {I : Addr} {h' : Heap} {tk : Nat} (rl : Rel prog w h₀ σ s.heap) (hI : s.heap.get? I = none) (he : Heap.ExtBut I s.heap h') : Post prog w h₀ (dom σ) s σ { s with heap := h', toks := tk } :=
  keeps_post rl fun b o e => he b o (fun q => by subst q; rw [hI] at e; cases e) e

theorem two_names {A : Around} {s : Shared} {x y : Str} {v₁ v₂ : AV} {a₁ a₂ : Value} {Q : Rho → AS → Prop} {h' : Heap} {t₁ t₂ : Value → Sem Unit} (rl : Rel prog w h₀ σ s.heap) (F : FR h₀ env ρ σ s.heap) (r₁ : VR s.heap v₁ a₁) (r₂ : VR s.heap v₂ a₂) (hx : Home env x) (hy : Home env y)
    (h : Q ((ρ.set x v₁).set y v₂) σ) (he : Heap.ExtBut s.heap.objs.size s.heap h')
    (ht₁ : ∀ v Q' s', wpAny (model prog w) A (storeName env x v) Q' NoE s' → wpAny (model prog w) A (t₁ v) Q' NoE s') (ht₂ : ∀ v Q' s', wpAny (model prog w) A (storeName env y v) Q' NoE s' → wpAny (model prog w) A (t₂ v) Q' NoE s') :
    wpAny (model prog w) A (assignInOrder [t₁, t₂] [a₁, a₂]) (PN prog w h₀ env σ s Q) NoE { s with heap := h' } := by
  have p₀ : Post prog w h₀ (dom σ) s σ { s with heap := h' } := ext_post (tk := s.toks) rl (get_push_new s.heap (o := default)) he
  have F₀ := F.post p₀
  show wpAny _ A (do holding [a₂] (t₁ a₁); assignInOrder [t₂] [a₂]) _ _ _
  refine wpAny_bind (wpAny_holding (ht₁ _ _ _ (wpAny_mono (store_name (Q := fun ρ' σ' => ρ' = ρ.set x v₁ ∧ σ' = σ) p₀.rel F₀ (p₀.vr r₁) hx ⟨rfl, rfl⟩) (fun _ s₂ ⟨ρ₂, σ₂, p₂, F₂, e₁, e₂⟩ => ?_) fun _ _ x => x)))
  subst e₁ e₂
  show wpAny _ A (do holding [] (t₂ a₂); assignInOrder [] []) _ _ _
  refine wpAny_bind (wpAny_holding (ht₂ _ _ _ (wpAny_mono (store_name (Q := Q) p₂.rel F₂ (p₂.vr (p₀.vr r₂)) hy h) (fun _ s₃ ⟨ρ₃, σ₃, p₃, F₃, q⟩ => wpAny_pure ⟨ρ₃, σ₃, ?_, F₃, q⟩) fun _ _ x => x)))
  exact ((p₀.mono fun _ d => .inl d).trans p₂ (fun b q => q.elim .inr fun q => .inl (.inr q))).trans p₃ (fun b q => q.elim .inr fun q => .inl (.inr q))

theorem As_tup2 {x y : Str} {px py pos : Pos} {k : Nat} {v₁ v₂ : AV} {Q : Rho → AS → Prop} (hx : Home env x) (hy : Home env y) (h : Q ((ρ.set x v₁).set y v₂) σ) :
    As prog w h₀ n env ρ σ (.Tuple [.Name x px, .Name y py] k pos) (.tup [v₁, v₂]) Q := fun A s a ok rl F r => by
  cases r with
  | tup ht hs =>
  rcases hs with _ | ⟨r₁, hs⟩
  rcases hs with _ | ⟨r₂, hs⟩
  rcases hs with _ | _
  refine wpAny_assign_Tuple (env := env) (x1 := k) (pos := pos) ok.handled ht (by simp [assignEach]) (by simp [assignEach]) ?_
  intro h' he
  exact two_names rl F r₁ r₂ hx hy h he (fun v Q' s' g => PyProof.Rows.assign_Name g) (fun v Q' s' g => PyProof.Rows.assign_Name g)
theorem Ex_swap {x y : Str} {px py pos tpos vpos : Pos} {k j : Nat} {e₁ e₂ : Expr} {Q : AF → Rho → AS → Prop}
    (h : Evs prog w h₀ n env ρ σ [e₁, e₂] fun vs σ₁ => ∃ v₁ v₂, vs = [v₁, v₂] ∧ Q .next ((ρ.set y v₂).set x v₁) σ₁) (hx : Home env x) (hy : Home env y)
    (hs : swapsWithSole [.Tuple [.Name x px, .Name y py] k tpos] (.Tuple [e₁, e₂] j vpos) pos.line env = pure false := by rfl)
    (hw : swappedStores [.Tuple [.Name x px, .Name y py] k tpos] (.Tuple [e₁, e₂] j vpos) env = pure (some [x, y]) := by rfl) :
    Ex prog w h₀ n env ρ σ (.Assign [.Tuple [.Name x px, .Name y py] k tpos] (.Tuple [e₁, e₂] j vpos) pos) Q := fun A s ok rl F =>
  have h' : Ev prog w h₀ n env ρ σ (.Tuple [e₁, e₂] j vpos) fun v σ₁ => ∃ v₁ v₂, v = AV.tup [v₁, v₂] ∧ Q .next ((ρ.set y v₂).set x v₁) σ₁ :=
    Ev_tuple (h.mono fun vs σ₁ ⟨v₁, v₂, e, q⟩ => by subst e; exact ⟨Nat.le_of_ble_eq_true rfl, v₁, v₂, rfl, q⟩)
  Assign_Tuple_swapped (wpAny_mono (h' A s ok rl F)
    (fun a s₁ ⟨v, σ₁, p₁, r₁, v₁, v₂, e, h₁⟩ => by
      subst e
      cases r₁ with
      | tup ht hs' =>
      rcases hs' with _ | ⟨r₁, hs'⟩
      rcases hs' with _ | ⟨r₂, hs'⟩
      rcases hs' with _ | _
      rename_i b₁ b₂
      rw [show ([x, y] : List Str).length = (#[b₁, b₂] : Array Value).size from rfl]
      refine unpackItems_tuple ok.handled ht fun h' he => ?_
      refine wpAny_mono ?_ (PN.next (env := env) (Q := Q) p₁) fun _ _ x => x
      exact two_names (prog := prog) (w := w) (x := y) (y := x) p₁.rel (F.post p₁) r₂ r₁ hy hx h₁ he (fun v Q' s' g => wpAny_bindName g) (fun v Q' s' g => wpAny_bindName g)) fun _ _ x => x) hs hw
end
-- Fw6
section
variable {prog : Program} {w : World} {h₀ : Heap} {n : Nat} {env : Env} {ρ : Rho} {σ : AS} {K : Frag}

theorem upd_of {A : Around} {h : Heap} {l : Addr} {items : Array Value} {k j : Nat} {v : Value} (ho : h.get? l = some { cls := .type "list", data := .seq items k }) :
    (h.update l (Obj.mapSeq (·.setIfInBounds j v))).PlainList l (items.setIfInBounds j v) :=
  ⟨_, Heap.get?_update_self _ ho rfl⟩

theorem setItem_plain {A : Around} {E : Value → Shared → Prop} {s : Shared} {l : Addr} {items : Array Value} {k : Int} {t : Tok} {v : Value} {Q : Unit → Shared → Prop} (hl : s.heap.PlainList l items) (h0 : 0 ≤ k) (hfit : k < 2 ^ 63) (hn : k < items.size)
    (hQ : ∀ h', h'.PlainList l (items.setIfInBounds k.toNat v) → Heap.SameBut l s.heap h' → Q () { s with heap := h' }) : wpAny (model prog w) A (setItem (.ref l) (.int k t) v) Q E s := by
  obtain ⟨e, ho⟩ := hl
  have hT : s.TypeIs (.ref l) "list" := ⟨_, ho, rfl⟩
  unfold setItem
  try with_reducible refine wpAny_holding ?_
  refine wpAny_bind (wpAny_sequenceKey hT (by decide) (wpAny_bind (wpAny_callSpecial?_slot (name := Str.ofString "__setitem__") hT slot_list_setitem
    (wpAny_call_entry slot_list_setitem hT entry_list_setitem ?_ (args_list_setitem _ _ _)))))
  show wpAny _ _ (Builtin.List.listSubscript? (.int k t) >>= _) _ _ s
  refine wpAny_bind (wpAny_listSubscript_int (fitsIndex_of h0 hfit) ?_)
  obtain ⟨j, rfl⟩ := Int.eq_ofNat_of_zero_le h0
  show wpAny _ _ ((seqItemAt l j >>= fun r => pure (r.map (j, ·))) >>= _) _ _ s
  have hj : j < items.size := by omega
  refine wpAny_bind (wpAny_bind (wpAny_seqItemAt ho rfl (wpAny_pure ?_)))
  rw [Array.getElem?_eq_getElem hj]
  show wpAny _ _ (setSeqItemAt l j v >>= _) _ _ s
  refine wpAny_bind (wpAny_setSeqItemAt ho rfl ?_)
  have fin := hQ _ (upd_of (A := A) (j := j) (v := v) ho) (Heap.SameBut.update ..)
  first
    | exact wpAny_bind (wpAny_pure (wpAny_pure ⟨.none, rfl, wpAny_pure fin⟩))
    | exact wpAny_pure ⟨.none, rfl, wpAny_pure fin⟩

theorem Ex_setlist {o i value : Expr} {pos' pos : Pos} {Q : AF → Rho → AS → Prop}
    (h : Ev prog w h₀ n env ρ σ value fun v σ₁ => Ev prog w h₀ n env ρ σ₁ o fun ov σ₂ => Ev prog w h₀ n env ρ σ₂ i fun iv σ₃ => ∃ a vs k, ov = .obj a ∧ iv = .int k ∧ σ₃ a = some (.list vs) ∧ 0 ≤ k ∧ k < vs.length ∧ vs.length < 2 ^ 62 ∧ Q .next ρ (σ₃.set a (.list (vs.set k.toNat v))))
    (hs : swapsWith value (some (.Subscript o i pos')) pos.line env = pure false := by rfl) : Ex prog w h₀ n env ρ σ (.Assign [.Subscript o i pos'] value pos) Q := fun A s ok rl F =>
  wpAny_Assign_Subscript (wpAny_mono (h A s ok rl F) (fun c s₁ ⟨v, σ₁, p₁, r₁, h₁⟩ => wpAny_mono (h₁ A s₁ ok p₁.rel (F.post p₁)) (fun a s₂ ⟨ov, σ₂, p₂, r₂, h₂⟩ => wpAny_mono (h₂ A s₂ ok p₂.rel (F.post (p₁.trans' p₂))) (fun b s₃ ⟨iv, σ₃, p₃, r₃, l, vs, k, e₁, e₂, ha, k0, k1, k2, h₃⟩ => by
    subst e₁ e₂
    cases r₂; cases r₃
    have p := (p₁.trans' p₂).trans' p₃
    obtain ⟨items, i1, i2⟩ := p₃.rel.at' _ _ ha
    have e : vs.length = items.size := by simpa using i2.length
    refine setItem_plain i1 k0 (by omega) (by omega) fun h' hl hs' => ?_
    have q := upd_post (n := s₃.toks) (o' := .list (vs.set k.toNat v)) p₃.rel ha (h' := h') (fun b o q e => hs'.extBut b o q e) fun ht => ⟨_, hl, by simpa using (i2.mono ht).set k.toNat ((p₃.vr (p₂.vr r₁)).mono ht)⟩
    exact ⟨.next, ρ, _, (p.trans' q).mono fun _ d => .inl d, F.post (p.trans' q), .next, h₃⟩) fun _ _ x => x) fun _ _ x => x) fun _ _ x => x) hs

/-! the table: a dict by pairs of ints -/
theorem key_of {h : Heap} : ∀ {ks : List Int} {items : List Value}, VRs h (ks.map .int) items → ItemsAre (intKind prog w) ks items
  | [], _, .nil => .nil
  | k :: ks, _, .cons hv hs => by
    cases hv
    exact .cons (by simp [intKind, Value.isInt]) (key_of hs)
theorem isKey_of {h : Heap} {ks : List Int} {a : Addr} (x : VR h (.tup (ks.map .int)) (.ref a)) : IsTupleKey (intKind prog w) h ks a := by
  cases x with
  | tup ht hs => obtain ⟨o, h1, h2, k, h3⟩ := ht; exact ⟨o, _, k, h1, h2, h3, key_of hs⟩
theorem tab_at {h : Heap} : ∀ {es : List (List Int × Int)} {xs : List (List Int × Addr × Value)}, tabX h es xs → ∀ (k : List Int), match es.lookup k with
    | some v => ∃ p, atKey xs k = some p ∧ VR h (.int v) p.2
    | none => atKey xs k = none
  | [], [], _, k => rfl
  | (a, v) :: es, (b, c, x) :: xs, ⟨h1, h2, h3⟩, k => by
    subst h1
    have ih := tab_at h3 k
    rw [List.lookup_cons]
    by_cases q : k = a
    · subst q
      simp only [beq_self_eq_true]
      exact ⟨(c, x), by simp [atKey], h2⟩
    · have q' : (k == a) = false := by simpa using q
      simp only [q']
      have e : atKey ((a, c, x) :: xs) k = atKey xs k := by simp [atKey, Ne.symm q]
      rw [e]; exact ih
theorem tabX.length {h : Heap} : ∀ {es : List (List Int × Int)} {xs : List (List Int × Addr × Value)}, tabX h es xs → xs.length = es.length
  | [], [], _ => rfl
  | (_, _) :: _, (_, _, _) :: _, ⟨_, _, h3⟩ => by rw [List.length_cons, List.length_cons, tabX.length h3]
theorem tabX.snoc {h : Heap} {k : List Int} {v : Int} {c : Addr} {x : Value} (hx : VR h (.int v) x) : ∀ {es : List (List Int × Int)} {xs : List (List Int × Addr × Value)}, tabX h es xs → tabX h (es ++ [(k, v)]) (xs ++ [(k, c, x)])
  | [], [], _ => ⟨rfl, hx, trivial⟩
  | (_, _) :: _, (_, _, _) :: _, ⟨h1, h2, h3⟩ => ⟨h1, h2, tabX.snoc hx h3⟩

theorem Ex_settab {o i value : Expr} {pos' pos : Pos} {Q : AF → Rho → AS → Prop}
    (h : Ev prog w h₀ n env ρ σ value fun v σ₁ => Ev prog w h₀ n env ρ σ₁ o fun ov σ₂ => Ev prog w h₀ n env ρ σ₂ i fun iv σ₃ => ∃ a es ks x, ov = .obj a ∧ iv = .tup (ks.map .int) ∧ v = .int x ∧ σ₃ a = some (.tab es) ∧ es.lookup ks = none ∧ es.length ≤ sizeLine ∧ Q .next ρ (σ₃.set a (.tab (es ++ [(ks, x)]))))
    (hs : swapsWith value (some (.Subscript o i pos')) pos.line env = pure false := by rfl) : Ex prog w h₀ n env ρ σ (.Assign [.Subscript o i pos'] value pos) Q := fun A s ok rl F =>
  wpAny_Assign_Subscript (wpAny_mono (h A s ok rl F) (fun c s₁ ⟨v, σ₁, p₁, r₁, h₁⟩ => wpAny_mono (h₁ A s₁ ok p₁.rel (F.post p₁)) (fun a s₂ ⟨ov, σ₂, p₂, r₂, h₂⟩ => wpAny_mono (h₂ A s₂ ok p₂.rel (F.post (p₁.trans' p₂))) (fun b s₃ ⟨iv, σ₃, p₃, r₃, l, es, ks, x, e₁, e₂, e₃, ha, k0, k1, h₃⟩ => by
    subst e₁ e₂ e₃
    cases r₂
    have p := (p₁.trans' p₂).trans' p₃
    have r₁' := p₃.vr (p₂.vr r₁)
    obtain ⟨xs, i1, i2⟩ := p₃.rel.at' _ _ ha
    obtain ⟨ta, rfl⟩ : ∃ ta, b = .ref ta := by cases r₃; exact ⟨_, rfl⟩
    have hkey := isKey_of (prog := prog) (w := w) r₃
    have hno := tab_at i2 ks
    rw [k0] at hno
    refine wpAny_setItem_heap (knd := tupleKind (intKind prog w)) (tupleKind_room_in1 (by have := ok.units; omega)) hkey i1 (fun h' hd hs' => ?_) (by rw [i2.length]; exact k1)
    rw [storedH_new hno] at hd
    have q := upd_post (n := s₃.toks + (tupleKind (intKind prog w)).draws ks) (o' := .tab (es ++ [(ks, x)])) p₃.rel ha (h' := h') (fun b o q e => hs'.extBut b o q e) fun ht => ⟨_, hd, (i2.mono ht).snoc (r₁'.mono ht)⟩
    exact ⟨.next, ρ, _, (p.trans' q).mono fun _ d => .inl d, F.post (p.trans' q), .next, h₃⟩) fun _ _ x => x) fun _ _ x => x) fun _ _ x => x) hs

theorem Meth_list {a : Addr} {vs : List AV} {name : Str} {id : String} {Q : Value → List AV → Prop} (ha : σ a = some (.list vs)) (slot : Slot "list" name id) (hty : typeOf (.builtin id) = pure (.type "method_descriptor"))
    (h : Q (.builtin id) [.obj a]) : Meth prog w h₀ n σ (.obj a) name Q := fun A s x pl ok rl r => by
  cases r
  obtain ⟨items, ⟨k, i1⟩, i2⟩ := rl.at' _ _ ha
  exact getMethod_builtin ⟨_, i1, rfl⟩ PySem.F.plainAttrs_list slot hty (fun a e => by cases e; exact ⟨_, i1, rfl⟩) ⟨[.obj a], rfl, .one (.obj a), h⟩
theorem Meth_append {a : Addr} {vs : List AV} {Q : Value → List AV → Prop} (ha : σ a = some (.list vs)) (h : Q (.builtin "list.append") [.obj a]) : Meth prog w h₀ n σ (.obj a) (Str.ofString "append") Q :=
  Meth_list ha PySem.F.slot_list_append PySem.F.type_list_append h
theorem Cl_append {a : Addr} {vs : List AV} {v : AV} {Q : AV → AS → Prop} (ha : σ a = some (.list vs)) (hz : vs.length ≤ sizeLine) (h : Q .none (σ.set a (.list (vs ++ [v])))) : Cl prog w h₀ n σ (.raw (.builtin "list.append")) [.obj a, v] Q := fun A s f as ok rl x y => by
  cases x
  rcases y with _ | ⟨y, ys⟩
  cases y
  rcases ys with _ | ⟨y, ys⟩
  cases ys
  obtain ⟨items, i1, i2⟩ := rl.at' _ _ ha
  have e : vs.length = items.size := by simpa using i2.length
  refine wpAny_list_append_plain i1 (fun h' hl hs => ⟨.none, _, upd_post (o' := .list (vs ++ [v])) rl ha (fun b o q e => hs.extBut b o q e) fun ht => ⟨_, hl, by rw [Array.toList_push]; exact (i2.mono ht).snoc (y.mono ht)⟩, .none, h⟩) (by omega)

theorem Meth_dictget {d : Addr} {es : List (List Int × Int)} {Q : Value → List AV → Prop} (hd : σ d = some (.tab es)) (h : Q (.builtin "dict.get") [.obj d]) : Meth prog w h₀ n σ (.obj d) (Str.ofString "get") Q := fun A s x pl ok rl r => by
  cases r
  obtain ⟨xs, i1, i2⟩ := rl.at' _ _ hd
  obtain ⟨o, es', ep, h1, h2, _⟩ := id i1
  exact getMethod_builtin i1.typeIs PySem.F.plainAttrs_dict PySem.F.slot_dict_get PySem.F.type_dict_get (fun a e => by cases e; exact ⟨o, h1, h2.2.1⟩) ⟨[.obj d], rfl, .one (.obj d), h⟩
theorem Cl_dictget {d : Addr} {es : List (List Int × Int)} {ks : List Int} {x : Int} {Q : AV → AS → Prop} (hd : σ d = some (.tab es)) (hd1 : (d == sysModules) = false) (h : Q (.int ((es.lookup ks).getD x)) σ) :
    Cl prog w h₀ n σ (.raw (.builtin "dict.get")) [.obj d, .tup (ks.map .int), .int x] Q := fun A s f as ok rl z y => by
  cases z
  rcases y with _ | ⟨y, ys⟩
  cases y
  rcases ys with _ | ⟨y, ys⟩
  rcases ys with _ | ⟨y', ys⟩
  cases ys
  cases y'
  obtain ⟨xs, i1, i2⟩ := rl.at' _ _ hd
  rename_i a _
  obtain ⟨ta, rfl⟩ : ∃ ta, a = .ref ta := by cases y; exact ⟨_, rfl⟩
  have hat := tab_at i2 ks
  refine call_meetsIn PySem.F.slot_dict_get i1.typeIs PySem.F.entry_dict_get (PySem.F.args_dict_get_3 _ _ _) (meetsH_dict_get_default (tupleKind (intKind prog w)) d ta hd1 _) ⟨tupleKind_room_in1 (by have := ok.units; omega), ks, xs, isKey_of y, i1, ?_⟩
  refine ⟨_, σ, toks_post rl _, ?_, h⟩
  cases e : es.lookup ks with
  | none => rw [e] at hat; rw [hat]; exact .int _ _
  | some v => rw [e] at hat; obtain ⟨p, e1, e2⟩ := hat; rw [e1]; exact e2
end
-- Fw7
section
variable {prog : Program} {w : World} {h₀ : Heap} {n : Nat} {env : Env} {ρ : Rho} {σ : AS} {K : Frag}

variable (prog w) in
structure AIt (h₀ : Heap) (I : Addr) (vs : List AV) (G : AS → Prop) (St : Nat → Heap → Prop) : Prop where
  frame : ∀ i h h', St i h → (∀ o, h.get? I = some o → h'.get? I = some o) → TupsKeep h h' → St i h'
  tk : ∀ i h h', St i h → Heap.ExtBut I h h' → TupsKeep h h'
  got : ∀ i h, St i h → ∃ o, h.get? I = some o
  item : ∀ i A s σ Q E v, A.handled = none → Rel prog w h₀ σ s.heap → G σ → St i s.heap → vs[i]? = some v →
    (∀ a h' tk, VR h' v a → St (i + 1) h' → Heap.ExtBut I s.heap h' → Q (some a) { s with heap := h', toks := tk }) → wpAny (model prog w) A (pyNext (.ref I)) Q E s
  done : ∀ i A s σ Q E, A.handled = none → Rel prog w h₀ σ s.heap → G σ → St i s.heap → vs.length ≤ i →
    (∀ h' tk, Heap.ExtBut I s.heap h' → Q none { s with heap := h', toks := tk }) → wpAny (model prog w) A (pyNext (.ref I)) Q E s
  self : ∀ i A s Q E, St i s.heap → Q (.ref I) s → wpAny (model prog w) A (pyIter (.ref I)) Q E s

variable (prog w) in
noncomputable def ItPost (h₀ : Heap) (env : Env) (σ : AS) (s : Shared) (Q : List AV → (AS → Prop) → AS → Prop) : Value → Shared → Prop := fun it s₂ =>
  ∃ I vs G σ' St, it = .ref I ∧ Post prog w h₀ (dom σ) s σ' s₂ ∧ s.heap.get? I = none ∧ σ' I = none ∧ AIt prog w h₀ I vs G St ∧ St 0 s₂.heap ∧ Q vs G σ'

variable (prog w) in
noncomputable def EvIt (h₀ : Heap) (n : Nat) (env : Env) (ρ : Rho) (σ : AS) (iter : Expr) (Q : List AV → (AS → Prop) → AS → Prop) : Prop :=
  ∀ A s, Ok n A → Rel prog w h₀ σ s.heap → FR h₀ env ρ σ s.heap → wpAny (model prog w) A (eval iter env) (fun x s₁ => wpAny (model prog w) A (pyIter x) (ItPost prog w h₀ env σ s Q) NoE s₁) NoE s

theorem fields_tk {h h' : Heap} {I : Addr} {o : Obj} {vs : Array Value} (ho : h.get? I = some o) (hd : o.data = .fields vs) (he : Heap.ExtBut I h h') : TupsKeep h h' :=
  tups_of' (U := fun b => b = I) (fun b o q e => he b o q e) fun b q o' e items k e' => by
    subst q; rw [ho] at e; cases e; rw [hd] at e'; cases e'

theorem AIt_list {I l : Addr} {vs : List AV} : AIt prog w h₀ I vs (fun σ => σ l = some (.list vs)) (fun i h => h.IsListIter I l i) where
  frame := fun i h h' ⟨o, h1, r⟩ k _ => ⟨o, k _ h1, r⟩
  tk := fun i h h' ⟨o, h1, h2, h3⟩ he => fields_tk h1 h3 he
  got := fun i h ⟨o, h1, _⟩ => ⟨o, h1⟩
  item := fun i A s σ Q E v hh rl hg st hv hQ => by
    obtain ⟨items, i1, i2⟩ := rl.at' _ _ hg
    obtain ⟨x, hx, rx⟩ := i2.getL _ hv
    obtain ⟨o, h1, h2, h3⟩ := id st
    refine wpAny_pyNext_list_item st i1.isList (x := x) (by simpa using hx) fun h' hit' hs' => ?_
    exact hQ x h' s.toks (rx.mono (fields_tk h1 h3 hs'.extBut)) hit' hs'.extBut
  done := fun i A s σ Q E hh rl hg st hv hQ => by
    obtain ⟨items, i1, i2⟩ := rl.at' _ _ hg
    have e : vs.length = items.size := by simpa using i2.length
    exact wpAny_pyNext_list_end hh st i1.isList (Array.getElem?_eq_none (by omega)) fun h' he => hQ h' s.toks he
  self := fun i A s Q E st h => wpAny_pyIter_listiter st h

theorem AIt_tup {I t : Addr} {vs : List AV} : AIt prog w h₀ I vs (fun _ => True) (fun i h => h.IsTupleIter I t i ∧ ∃ items, IsTup h t items ∧ VRs h vs items.toList) where
  frame := fun i h h' ⟨⟨o, h1, r⟩, items, i1, i2⟩ k ht => ⟨⟨o, k _ h1, r⟩, items, ht _ _ i1, i2.mono ht⟩
  tk := fun i h h' ⟨⟨o, h1, h2, h3⟩, _⟩ he => fields_tk h1 h3 he
  got := fun i h ⟨⟨o, h1, _⟩, _⟩ => ⟨o, h1⟩
  item := fun i A s σ Q E v hh rl hg st hv hQ => by
    obtain ⟨st, items, i1, i2⟩ := st
    obtain ⟨x, hx, rx⟩ := i2.getL _ hv
    obtain ⟨o, h1, h2, h3⟩ := id st
    refine wpAny_pyNext_tuple_item st i1 (x := x) (by simpa using hx) fun h' hit' hs' => ?_
    have ht := fields_tk h1 h3 hs'.extBut
    exact hQ x h' s.toks (rx.mono ht) ⟨hit', items, ht _ _ i1, i2.mono ht⟩ hs'.extBut
  done := fun i A s σ Q E hh rl hg st hv hQ => by
    obtain ⟨st, items, i1, i2⟩ := st
    have e : vs.length = items.size := by simpa using i2.length
    exact wpAny_pyNext_tuple_end hh st i1 (Array.getElem?_eq_none (by omega)) fun h' he => hQ h' s.toks he
  self := fun i A s Q E st h => wpAny_pyIter_tupleiter st.1 h

noncomputable def rng (a c : Int) (m : Nat) : List AV := (List.range m).map fun i => .int (a + (i : Nat) * c)
theorem rng_length (a c : Int) (m : Nat) : (rng a c m).length = m := by simp [rng]
theorem rng_get {a c : Int} {m i : Nat} {v : AV} (h : (rng a c m)[i]? = some v) : i < m ∧ v = .int (a + (i : Nat) * c) := by
  unfold rng at h
  rw [List.getElem?_map] at h
  obtain ⟨j, h1, h2⟩ := Option.map_eq_some_iff.mp h
  obtain ⟨h3, h4⟩ := List.getElem?_eq_some_iff.mp h1
  simp only [List.getElem_range] at h4
  subst h4
  exact ⟨by simpa using h3, h2.symm⟩
theorem AIt_range {I : Addr} {a c : Int} {m : Nat} : AIt prog w h₀ I (rng a c m) (fun _ => True) (fun i h => IsRangeIter h I (a + (i : Nat) * c) ((m : Int) - (i : Nat)) c) where
  frame := fun i h h' st k ht => k _ st
  tk := fun i h h' st he => fields_tk st rfl he
  got := fun i h st => ⟨_, st⟩
  item := fun i A s σ Q E v hh rl hg st hv hQ => by
    obtain ⟨hi, rfl⟩ := rng_get hv
    refine wpAny_pyNext_range_item st (by omega) fun h' hit' hs' => ?_
    refine hQ _ h' _ (.int _ _) ?_ hs'.extBut
    have e1 : a + ((i + 1 : Nat) : Int) * c = a + (i : Int) * c + c := by push_cast; rw [Int.add_mul, Int.one_mul, Int.add_assoc]
    have e2 : (m : Int) - ((i + 1 : Nat) : Int) = (m : Int) - (i : Int) - 1 := by push_cast; omega
    rw [e1, e2]; exact hit'
  done := fun i A s σ Q E hh rl hg st hv hQ => by
    rw [rng_length] at hv
    exact wpAny_pyNext_range_end hh st (by omega) fun h' he' => hQ h' s.toks he'
  self := fun i A s Q E st h => wpAny_pyIter_rangeiter st h

theorem new_ext {h : Heap} {o : Obj} : Heap.ExtBut h.objs.size h (h.push o) := fun b o' _ e => Heap.get?_push_of_some _ e
theorem EvIt_list {iter : Expr} {Q : List AV → (AS → Prop) → AS → Prop} (h : Ev prog w h₀ n env ρ σ iter fun v σ₁ => ∃ l vs, v = .obj l ∧ σ₁ l = some (.list vs) ∧ Q vs (fun σ => σ l = some (.list vs)) σ₁) : EvIt prog w h₀ n env ρ σ iter Q := fun A s ok rl F =>
  wpAny_mono (h A s ok rl F) (fun x s₁ ⟨v, σ₁, p₁, r₁, l, vs, e, hl, h₁⟩ => by
    subst e
    cases r₁
    obtain ⟨items, i1, i2⟩ := p₁.rel.at' _ _ hl
    have hnew := get_push_new s₁.heap (o := default)
    refine wpAny_pyIter_list i1.isList ⟨_, vs, _, σ₁, _, rfl, p₁.trans' (keeps_post p₁.rel fun b o e => Heap.get?_push_of_some _ e), p₁.new hnew, p₁.rel.none_of_new hnew, AIt_list (l := l), ⟨_, Heap.get?_push_size _ rfl, rfl, rfl⟩, h₁⟩) fun _ _ x => x
end
-- Fw8
section
variable {prog : Program} {w : World} {h₀ : Heap} {n : Nat} {env : Env} {ρ : Rho} {σ : AS} {K : Frag}

theorem push_post {s : Shared} (rl : Rel prog w h₀ σ s.heap) (o : Obj) {k : Nat} : Post prog w h₀ (dom σ) s σ { s with heap := s.heap.push o, toks := k } := keeps_post rl fun b o e => Heap.get?_push_of_some _ e

theorem EvIt_tup {iter : Expr} {Q : List AV → (AS → Prop) → AS → Prop} (h : Ev prog w h₀ n env ρ σ iter fun v σ₁ => ∃ vs, v = .tup vs ∧ Q vs (fun _ => True) σ₁) : EvIt prog w h₀ n env ρ σ iter Q := fun A s ok rl F =>
  wpAny_mono (h A s ok rl F) (fun x s₁ ⟨v, σ₁, p₁, r₁, vs, e, h₁⟩ => by
    subst e
    cases r₁ with
    | tup ht hs =>
    have hnew := get_push_new s₁.heap (o := default)
    have hp (o : Obj) := push_post (k := s₁.toks) p₁.rel o
    exact wpAny_pyIter_tuple ht ⟨_, vs, _, σ₁, _, rfl, p₁.trans' (hp _), p₁.new hnew, p₁.rel.none_of_new hnew, AIt_tup (t := _), ⟨⟨_, Heap.get?_push_size _ rfl, rfl, rfl⟩, _, (hp _).tups _ _ ht, by simpa using (hp _).vrs hs⟩, h₁⟩) fun _ _ x => x

theorem iter_range_post {s s₁ : Shared} {σ₁ : AS} {r : Addr} {a b c : Int} {t u v : Tok} {Q : List AV → (AS → Prop) → AS → Prop} {A : Around} (p₁ : Post prog w h₀ (dom σ) s σ₁ s₁) (hr : IsRange s₁.heap r a b c t u v) (hs : Builtin.Range.small a b c = true)
    (h0 : 0 ≤ Builtin.Range.rangeSize a b c) (h : Q (rng a c (Builtin.Range.rangeSize a b c).toNat) (fun _ => True) σ₁) : wpAny (model prog w) A (pyIter (.ref r)) (ItPost prog w h₀ env σ s Q) NoE s₁ := by
  have hnew := get_push_new s₁.heap (o := default)
  refine wpAny_pyIter_range hr hs ⟨_, _, _, σ₁, _, rfl, p₁.trans' (keeps_post p₁.rel fun b o e => Heap.get?_push_of_some _ e), p₁.new hnew, p₁.rel.none_of_new hnew, AIt_range, ?_, h⟩
  have := Heap.get?_push_size s₁.heap (o := { cls := .type "range_iterator", data := .fields #[rawInt a, rawInt (Builtin.Range.rangeSize a b c), rawInt c] }) rfl
  have e1 : a + ((0 : Nat) : Int) * c = a := by simp
  have e2 : ((Builtin.Range.rangeSize a b c).toNat : Int) - ((0 : Nat) : Int) = Builtin.Range.rangeSize a b c := by omega
  rw [e1, e2]
  exact this

theorem EvIt_range {func e : Expr} {pos : Pos} {Q : List AV → (AS → Prop) → AS → Prop}
    (h : Ev prog w h₀ n env ρ σ func fun f σ₁ => f = .raw (.type "range") ∧ Ev prog w h₀ n env ρ σ₁ e fun v σ₂ => ∃ m : Int, v = .int m ∧ m < 2 ^ 62 ∧ -(2 ^ 62) ≤ m ∧ Q (rng 0 1 m.toNat) (fun _ => True) σ₂)
    (hc : eval (.Call func [e] [] pos) env = (do callWith pos (← eval func env) [] (backTo pos (starEach [e] env)) (backToKw pos (keywordEach [] env))) := by rfl)
    (he : starEach [e] env = (false, eval e env) :: starEach [] env := by rfl) : EvIt prog w h₀ n env ρ σ (.Call func [e] [] pos) Q := fun A s ok rl F =>
  Call_ (wpAny_mono (h A s ok rl F) (fun f s₁ ⟨v₁, σ₁, p₁, r₁, e₁, h₁⟩ => by
    subst e₁
    cases r₁
    have g := (Evs_cons (Q := fun vs σ₂ => ∃ m : Int, vs = [.int m] ∧ m < 2 ^ 62 ∧ -(2 ^ 62) ≤ m ∧ Q (rng 0 1 m.toNat) (fun _ => True) σ₂) (h₁.mono fun v σ₂ ⟨m, e, q⟩ => Evs_nil ⟨m, by rw [e], q⟩) he) A s₁ pos ok p₁.rel (F.post p₁)
    rw [he] at g ⊢
    refine callWith_of (P := fun _ => True) rfl (fun _ _ => ⟨.machine, .inr (.inl rfl), Looks.of_pure rfl⟩) (Calls.evalArgs_plain (wpAny_mono g (fun as s₂ ⟨vs, σ₂, p₂, r₂, m, e₂, m1, m2, h₂⟩ => ⟨trivial, ?_⟩) fun _ _ x => x))
    subst e₂
    rcases r₂ with _ | ⟨r₂, r₃⟩
    cases r₂; cases r₃
    refine call_range_1 ?_
    have e0 : Builtin.Range.rangeSize 0 m 1 = if 0 < m then m - 0 else 0 := rangeSize_one 0 m
    refine iter_range_post ((p₁.trans' p₂).trans' (push_post p₂.rel _)) (IsRange.new ..) (small_one (by decide) (by decide) m2 m1) (by rw [e0]; split <;> omega) ?_
    rw [e0, show (if 0 < m then m - 0 else 0).toNat = m.toNat from by split <;> omega]
    exact h₂) fun _ _ x => x) hc

theorem EvIt_down {func e₁ e₂ e₃ : Expr} {pos : Pos} {Q : List AV → (AS → Prop) → AS → Prop}
    (h : Ev prog w h₀ n env ρ σ func fun f σ₁ => f = .raw (.type "range") ∧ Evs prog w h₀ n env ρ σ₁ [e₁, e₂, e₃] fun vs σ₂ => ∃ m : Int, vs = [.int m, .int 0, .int (-1)] ∧ m < 2 ^ 62 ∧ -(2 ^ 62) ≤ m ∧ Q (rng m (-1) m.toNat) (fun _ => True) σ₂)
    (hc : eval (.Call func [e₁, e₂, e₃] [] pos) env = (do callWith pos (← eval func env) [] (backTo pos (starEach [e₁, e₂, e₃] env)) (backToKw pos (keywordEach [] env))) := by rfl)
    (he : starEach [e₁, e₂, e₃] env = (false, eval e₁ env) :: starEach [e₂, e₃] env := by rfl) (hplain : (backTo pos (starEach [e₂, e₃] env)).any (·.1) = false := by rfl) : EvIt prog w h₀ n env ρ σ (.Call func [e₁, e₂, e₃] [] pos) Q := fun A s ok rl F =>
  Call_ (wpAny_mono (h A s ok rl F) (fun f s₁ ⟨v₁, σ₁, p₁, r₁, e₁', h₁⟩ => by
    subst e₁'
    cases r₁
    have g := h₁ A s₁ pos ok p₁.rel (F.post p₁)
    rw [he] at g ⊢
    refine callWith_of (P := fun _ => True) (by show ((false || (backTo pos (starEach [e₂, e₃] env)).any (·.1)) || false) = false; rw [hplain]; rfl) (fun _ _ => ⟨.machine, .inr (.inl rfl), Looks.of_pure rfl⟩) (Calls.evalArgs_plain (wpAny_mono g (fun as s₂ ⟨vs, σ₂, p₂, r₂, m, e₂, m1, m2, h₂⟩ => ⟨trivial, ?_⟩) fun _ _ x => x))
    subst e₂
    rcases r₂ with _ | ⟨r₂, r₃⟩
    rcases r₃ with _ | ⟨r₃, r₄⟩
    rcases r₄ with _ | ⟨r₄, r₅⟩
    cases r₂; cases r₃; cases r₄; cases r₅
    refine call_range_3 (by decide) ?_ (.inl (PyProof.noPylong_small (by decide)))
    have e0 : Builtin.Range.rangeSize m 0 (-1) = if 0 < m then m else 0 := by
      unfold Builtin.Range.rangeSize
      simp only [show ¬ ((-1 : Int) > 0) by decide, if_false]
      split <;> simp <;> omega
    refine iter_range_post ((p₁.trans' p₂).trans' (push_post p₂.rel _)) (IsRange.new ..) ?_ (by rw [e0]; split <;> omega) ?_
    · unfold Builtin.Range.small
      rw [e0]
      simp only [Builtin.Range.rangeFitsLong, Bool.and_eq_true, Bool.or_eq_true, decide_eq_true_eq, beq_iff_eq, show ¬ ((-1 : Int) > 0) by decide, if_false]
      split <;> omega
    · rw [e0, show (if 0 < m then m else 0).toNat = m.toNat from by split <;> omega]
      exact h₂) fun _ _ x => x) hc

theorem FR.ext {h h' : Heap} {σ : AS} {I : Addr} (F : FR h₀ env ρ σ h) (hI : ¬ inFrame env I) (ht : TupsKeep h h') (he : Heap.ExtBut I h h') : FR h₀ env ρ σ h' :=
  F.of_keep ht (fun b o q e => he b o (fun z => by subst z; exact hI q) e) F.ap
theorem Rel.ext {h h' : Heap} {σ : AS} {I : Addr} (rl : Rel prog w h₀ σ h) (hI : σ I = none) (hI₀ : h₀.get? I = none) (ht : TupsKeep h h') (he : Heap.ExtBut I h h') : Rel prog w h₀ σ h' :=
  ⟨fun b o e => he b o (fun z => by subst z; rw [hI₀] at e; cases e) (rl.base b o e), rl.apart, fun b o e => (rl.at' b o e).mono ht fun ob g => he b ob (fun z => by subst z; rw [hI] at e; cases e) g⟩
theorem Post.ext {s s₁ : Shared} {σ₁ : AS} {U : Addr → Prop} {I : Addr} {h' : Heap} {tk : Nat} (p : Post prog w h₀ U s σ₁ s₁) (hs : s.heap.get? I = none) (hI : σ₁ I = none) (hI₀ : h₀.get? I = none) (ht : TupsKeep s₁.heap h') (he : Heap.ExtBut I s₁.heap h') :
    Post prog w h₀ U s σ₁ { s₁ with heap := h', toks := tk } where
  rel := p.rel.ext hI hI₀ ht he
  keep := fun b o q e => he b o (fun z => by subst z; rw [hs] at e; cases e) (p.keep b o q e)
  fresh := p.fresh
  tups := p.tups.trans ht
  stay := fun b o e => let ⟨o', e'⟩ := p.stay b o e; ⟨o', he b o' (fun z => by subst z; rw [hs] at e; cases e) e'⟩
  same := by obtain ⟨h1, t1, rfl⟩ := p.same; exact ⟨_, _, rfl⟩

theorem Ex_forX {target iter : Expr} {body : List Stmt} {pos : Pos} {Q : AF → Rho → AS → Prop}
    (h : EvIt prog w h₀ n env ρ σ iter fun vs G σ₁ => ∃ Inv : Nat → Rho → AS → Prop, Inv 0 ρ σ₁ ∧ (∀ i ρ' σ', i ≤ vs.length → Inv i ρ' σ' → G σ') ∧
      (∀ i v ρ' σ', vs[i]? = some v → Inv i ρ' σ' → As prog w h₀ n env ρ' σ' target v fun ρ₂ σ₂ => Exs prog w h₀ n env ρ₂ σ₂ body fun fl ρ₃ σ₃ => match fl with
        | .next => Inv (i + 1) ρ₃ σ₃
        | .cont => Inv (i + 1) ρ₃ σ₃
        | .brk => Q .next ρ₃ σ₃
        | .ret v => Q (.ret v) ρ₃ σ₃) ∧
      (∀ ρ' σ', Inv vs.length ρ' σ' → Q .next ρ' σ'))
    (hs : ∀ x, foldedSetIterable iter env x = pure x := by intro _; rfl) (ht : ∀ it v, letOwnedTupleGo target it v = pure () := by intro _ _; rfl) :
    Ex prog w h₀ n env ρ σ (.For target iter body [] pos) Q := fun A s ok rl F => by
  refine wpAny_For (wpAny_mono (h A s ok rl F) (fun x s₁ h₁ => wpAny_mono h₁ (fun it s₂ h₂ => ?_) fun _ _ x => x.elim) fun _ _ x => x.elim) hs
  obtain ⟨I, vs, G, σ₁, St, rfl, p, hsI, hσI, W, st, Inv, hinv, hG, hturn, hend⟩ := h₂
  have hI₀ : h₀.get? I = none := by
    cases e : h₀.get? I with
    | none => rfl
    | some o => rw [rl.base I o e] at hsI; cases hsI
  have hfI : ¬ inFrame env I := fun q => by obtain ⟨o, g⟩ := F.got I q; rw [hsI] at g; cases g
  refine codeAny_forLoop (fun k s' => ∃ i ρ' σ', Post prog w h₀ (fun b => dom σ b ∨ inFrame env b) s σ' s' ∧ FR h₀ env ρ' σ' s'.heap ∧ σ' I = none ∧ St i s'.heap ∧ Inv i ρ' σ' ∧ i ≤ vs.length ∧ k = vs.length + 1 - i) ?_ (vs.length + 1)
    ⟨0, ρ, σ₁, p.mono fun _ d => .inl d, F.post p, hσI, st, hinv, Nat.zero_le _, rfl⟩ (ht _)
  rintro k s' ⟨i, ρ', σ', p', F', hI', st', hi, hle, rfl⟩
  by_cases hlt : i < vs.length
  · obtain ⟨v, hv⟩ : ∃ v, vs[i]? = some v := ⟨_, List.getElem?_eq_getElem hlt⟩
    refine W.item i A s' σ' _ _ v ok.handled p'.rel (hG _ _ _ hle hi) st' hv fun a h₁ tk₁ ra st₁ he => ?_
    have tk := W.tk i _ _ st' he
    have p₁ := p'.ext (tk := tk₁) hsI hI' hI₀ tk he
    have F₁ := F'.ext hfI tk he
    refine noE (wpAny_mono (hturn i v ρ' σ' hv hi A _ a ok p₁.rel F₁ ra) (fun _ s₃ ⟨ρ₂, σ₂, p₂, F₂, h₂⟩ => ?_) fun _ _ x => x)
    refine noE (wpAny_mono (h₂ A s₃ ok p₂.rel F₂) (fun f s₄ ⟨fl, ρ₃, σ₃, p₃, F₃, r₃, h₃⟩ => ?_) fun _ _ x => x)
    have q := (p₁.trans p₂ fun b z => z.elim .inr fun z => .inl (.inr z)).trans p₃ fun b z => z.elim .inr fun z => .inl (.inr z)
    have hgot : ∃ o, h₁.get? I = some o := W.got _ _ st₁
    have n₂ : σ₂ I = none := by
      cases e : σ₂ I with
      | none => rfl
      | some o => obtain ⟨o', g⟩ := hgot; rw [p₂.fresh I o e (fun z => z.elim (fun d => not_dom.mpr hI' d) hfI)] at g; cases g
    have k₂ : ∀ o, h₁.get? I = some o → s₃.heap.get? I = some o := fun o g => p₂.keep I o (fun z => z.elim (fun d => not_dom.mpr hI' d) hfI) g
    have n₃ : σ₃ I = none := by
      cases e : σ₃ I with
      | none => rfl
      | some o => obtain ⟨o', g⟩ := hgot; have := k₂ _ g; rw [p₃.fresh I o e (fun z => z.elim (fun d => not_dom.mpr n₂ d) hfI)] at this; cases this
    have k₃ : ∀ o, h₁.get? I = some o → s₄.heap.get? I = some o := fun o g => p₃.keep I o (fun z => z.elim (fun d => not_dom.mpr n₂ d) hfI) (k₂ o g)
    have st₄ := W.frame _ _ _ st₁ k₃ (p₂.tups.trans p₃.tups)
    cases r₃ with
    | next => exact ⟨vs.length + 1 - (i + 1), by omega, i + 1, ρ₃, σ₃, q, F₃, n₃, st₄, h₃, hlt, rfl⟩
    | cont => exact ⟨vs.length + 1 - (i + 1), by omega, i + 1, ρ₃, σ₃, q, F₃, n₃, st₄, h₃, hlt, rfl⟩
    | brk => exact ⟨_, ρ₃, σ₃, q, F₃, .next, h₃⟩
    | ret x => exact ⟨_, ρ₃, σ₃, q, F₃, .ret x, h₃⟩
  · have hin : i = vs.length := by omega
    subst hin
    refine W.done _ A s' σ' _ _ ok.handled p'.rel (hG _ _ _ hle hi) st' (Nat.le_refl _) fun h₁ tk₁ he => ?_
    have tk := W.tk _ _ _ st' he
    exact wpAny_execs_nil ⟨_, ρ', σ', p'.ext (tk := tk₁) hsI hI' hI₀ tk he, F'.ext hfI tk he, .next, hend _ _ hi⟩
theorem Ex_for {target iter : Expr} {body : List Stmt} {pos : Pos} {Q : AF → Rho → AS → Prop} (Inv : Nat → List AV → Rho → AS → Prop)
    (h : EvIt prog w h₀ n env ρ σ iter fun vs G σ₁ => Inv 0 vs ρ σ₁ ∧ (∀ i ρ' σ', i ≤ vs.length → Inv i vs ρ' σ' → G σ') ∧
      (∀ i v ρ' σ', vs[i]? = some v → Inv i vs ρ' σ' → As prog w h₀ n env ρ' σ' target v fun ρ₂ σ₂ => Exs prog w h₀ n env ρ₂ σ₂ body fun fl ρ₃ σ₃ => match fl with
        | .next => Inv (i + 1) vs ρ₃ σ₃
        | .cont => Inv (i + 1) vs ρ₃ σ₃
        | .brk => Q .next ρ₃ σ₃
        | .ret v => Q (.ret v) ρ₃ σ₃) ∧
      (∀ ρ' σ', Inv vs.length vs ρ' σ' → Q .next ρ' σ'))
    (hs : ∀ x, foldedSetIterable iter env x = pure x := by intro _; rfl) (ht : ∀ it v, letOwnedTupleGo target it v = pure () := by intro _ _; rfl) :
    Ex prog w h₀ n env ρ σ (.For target iter body [] pos) Q :=
  Ex_forX (fun A s ok rl F => wpAny_mono (h A s ok rl F) (fun x s₁ h₁ => wpAny_mono h₁ (fun it s₂ h₂ => by
    obtain ⟨I, vs, G, σ₁, St, e, p, hsI, hσI, W, st, q⟩ := h₂
    exact ⟨I, vs, G, σ₁, St, e, p, hsI, hσI, W, st, fun i => Inv i vs, q⟩) fun _ _ x => x) fun _ _ x => x) hs ht
end
-- Fw9
section
variable {prog : Program} {w : World} {h₀ : Heap} {n : Nat} {env : Env} {ρ : Rho} {σ : AS} {K : Frag}

noncomputable def bindA : List Str → List AV → Rho → Rho
  | x :: xs, v :: vs, r => bindA xs vs (r.set x v)
  | _, _, r => r
theorem bindA_local {h : Heap} {kindOf : Str → Option NameKind} : ∀ {names : List Str} {vs : List AV} {as : List Value} {r : Rho} {m : Str → Option Value}, VRs h vs as → (∀ x, kindOf x = some .local → OR h (r x) (m x)) →
    ∀ x, kindOf x = some .local → OR h (bindA names vs r x) (bindL kindOf (names.zip as) m x)
  | [], _, _, _, _, _, hr, x, hx => by
    unfold bindA
    exact hr x hx
  | _ :: _, _, _, _, _, .nil, hr, x, hx => hr x hx
  | y :: ys, _, _, r, m, .cons hv hs, hr, x, hx => by
    show OR h (bindA ys _ _ x) (bindL kindOf (ys.zip _) _ x)
    refine bindA_local hs (fun z hz => ?_) x hx
    unfold Rho.set
    by_cases q : z = y
    · subst q; rw [if_pos rfl, if_pos hz]; simp only [if_true]; exact hv
    · rw [if_neg q]
      split
      · simp only [q, if_false]; exact hr z hz
      · exact hr z hz
theorem bindA_cell {h : Heap} {kindOf : Str → Option NameKind} : ∀ {names : List Str} {vs : List AV} {as : List Value} {r : Rho} {m : Str → Option Value}, VRs h vs as → (∀ x, kindOf x ≠ some .local → OR h (r x) (m x)) →
    ∀ x, kindOf x ≠ some .local → OR h (bindA names vs r x) (bindC kindOf (names.zip as) m x)
  | [], _, _, _, _, _, hr, x, hx => by
    unfold bindA
    exact hr x hx
  | _ :: _, _, _, _, _, .nil, hr, x, hx => hr x hx
  | y :: ys, _, _, r, m, .cons hv hs, hr, x, hx => by
    show OR h (bindA ys _ _ x) (bindC kindOf (ys.zip _) _ x)
    refine bindA_cell hs (fun z hz => ?_) x hx
    unfold Rho.set
    by_cases q : z = y
    · subst q; rw [if_pos rfl, if_neg hz]; simp only [if_true]; exact hv
    · rw [if_neg q]
      split
      · exact hr z hz
      · simp only [q, if_false]; exact hr z hz

structure FnAt (h₀ : Heap) (f : Addr) (params : Arguments) (body : List Stmt) (scope : Scope) : Prop where
  ex : ∃ oc od osl name qual doc pm an cdv ct, h₀.get? f = some ⟨oc, od, .func (fnOf name qual params body scope .none .none doc pm an cdv ct), osl⟩ ∧ h₀.CodeRec cdv qual

noncomputable def AF.out : AF → AV
  | .ret v => v
  | _ => .none

theorem frame_new {s s₁ : Shared} {scope : Scope} {f : Addr} {qual : Str} {cdv : Value} {names : List Str} {vs : List AV} {as : List Value} (rl : Rel prog w h₀ σ s.heap) (hv : VRs s.heap vs as) (hk : scope.kind = .function)
    (x : InCallC s s.heap.objs.size (bindL (envOfC qual scope s.heap.objs.size f cdv).kindOf (names.zip as) fun _ => none) (envOfC qual scope s.heap.objs.size f cdv).cells (bindC (envOfC qual scope s.heap.objs.size f cdv).kindOf (names.zip as) fun _ => none) s₁) :
    Post prog w h₀ (dom σ) s σ s₁ ∧ FR h₀ (envOfC qual scope s.heap.objs.size f cdv) (bindA names vs fun _ => none) σ s₁.heap ∧ ∀ b, inFrame (envOfC qual scope s.heap.objs.size f cdv) b → s.heap.get? b = none := by
  have hnew : ∀ b, s.heap.objs.size ≤ b → s.heap.get? b = none := fun b hb => by
    cases e : s.heap.get? b with
    | none => rfl
    | some o => exact absurd (Heap.lt_size e) (Nat.not_lt.mpr hb)
  have hin : ∀ b, inFrame (envOfC qual scope s.heap.objs.size f cdv) b → s.heap.objs.size ≤ b := fun b q => by
    rcases q with q | ⟨y, q⟩
    · exact Nat.le_of_eq q.symm
    · exact Nat.le_of_lt (x.above y b (mem_of_lookup q))
  have hb0 : ∀ b, s.heap.get? b = none → h₀.get? b = none := fun b hb => by
    cases e : h₀.get? b with
    | none => rfl
    | some o => rw [rl.base b o e] at hb; cases hb
  obtain ⟨h1, t1, e1⟩ := x.toInCall.same
  have p : Post prog w h₀ (dom σ) s σ s₁ := by
    rw [e1]
    exact keeps_post rl fun b o e => by have := x.toInCall.keep b o e; rw [e1] at this; exact this
  refine ⟨p, ⟨⟨_, x.toInCall.ns, bindA_local (r := fun _ => none) (m := fun _ => none) (p.vrs hv) fun _ _ => trivial⟩, fun y c e => ⟨_, x.cell y c e, fun q => ?_⟩, hk, rfl, rfl, hb0 _ (hnew _ (Nat.le_refl _)), fun y c e => hb0 _ (hnew _ (hin _ (.inr ⟨y, e⟩))),
    rl.none_of_new (hnew _ (Nat.le_refl _)), fun y c e => rl.none_of_new (hnew _ (hin _ (.inr ⟨y, e⟩))), fun y c e => Nat.ne_of_gt (x.above y c (mem_of_lookup e)), fun y z c e e' => name_of_addr x.apart (mem_of_lookup e) (mem_of_lookup e')⟩, fun b q => hnew b (hin b q)⟩
  refine bindA_cell (r := fun _ => none) (m := fun _ => none) (p.vrs hv) (fun _ _ => trivial) y fun z => ?_
  rcases q with q | q <;> rw [q] at z <;> cases z

variable (prog w) in
noncomputable def Cd (h₀ : Heap) (n : Nat) (σ : AS) (f : AV) (args : List AV) (Q : AV → AS → Prop) : Prop :=
  ∀ A s f' as, Ok n A → Rel prog w h₀ σ s.heap → VR s.heap f f' → VRs s.heap args as → codeAny (model prog w) A (.call f' ⟨as, []⟩) (fun r s' => match r with | .ok (.ret v) => PV prog w h₀ (dom σ) s Q v s' | .ok _ => False | .error e => NoE e s') s
theorem Cd.cl {f : AV} {args : List AV} {Q : AV → AS → Prop} (h : Cd prog w h₀ n σ f args Q) : Cl prog w h₀ n σ f args Q := fun A s f' as ok rl r rs => wpAny_call (h A s f' as ok rl r rs)
theorem Cd_def {f : Addr} {params : Arguments} {body : List Stmt} {scope : Scope} {names : List Str} {vs : List AV} {mg mb : Str → Option Value} {Q : AV → AS → Prop} (T : Top0 h₀ mg mb) (X : FnAt h₀ f params body scope)
    (hb : ∀ name qual doc pm an cdv ct vals, vals.length = vs.length → bindArgs (fnOf name qual params body scope .none .none doc pm an cdv ct) ⟨vals, []⟩ = pure (names.zip vals))
    (hn : (names.all fun y => scope.names.lookup y == some .local || scope.names.lookup y == some .cell) = true)
    (h : ∀ qual cdv L, σ L = none → h₀.get? L = none → Exs prog w h₀ n (envOfC qual scope L f cdv) (bindA names vs fun _ => none) σ body fun fl _ σ' => Q fl.out σ')
    (hco : scope.isCoroutine = false := by rfl) (hgen : scope.isGenerator = false := by rfl) (hk : scope.kind = .function := by rfl) : Cd prog w h₀ (n + 1) σ (.raw (.ref f)) vs Q := fun A s f' as ok rl r hv => by
  cases r
  obtain ⟨oc, od, osl, name, qual, doc, pm, an, cdv, ct, ho, hcd⟩ := X.ex
  refine (codeAny_call_cells (fd := fnOf name qual params body scope .none .none doc pm an cdv ct) (binds := names.zip as) ok.room (rl.base _ _ ho) rfl (T.nolimit.keeps rl.base) (hcd.keeps rl.base) rfl (hb _ _ _ _ _ _ _ _ (hv.length.symm)) rfl (fun y hy => ?_) (fun s₁ x => ?_) hco hgen hk)
  · have hm : y.1 ∈ names := (List.of_mem_zip hy).1
    have e := List.all_eq_true.mp hn _ hm
    rcases Bool.or_eq_true_iff.mp e with q | q
    · exact .inl (by simpa using q)
    · have q' : scope.names.lookup y.1 = some .cell := by simpa using q
      exact .inr ⟨q', cellsFrom_some _ _ _ (.inl q')⟩
  · obtain ⟨p, F, hnew⟩ := frame_new (names := names) (f := f) (qual := qual) (cdv := cdv) (scope := scope) rl hv hk x
    refine wpAny_mono (h qual cdv s.heap.objs.size (F.lap) F.lnew _ s₁ (ok.deeper _) p.rel F) (fun fl s₂ ⟨fl', ρ₂, σ₂, p₂, F₂, r₂, q⟩ => ?_) fun _ _ x => x.elim
    have pp := p.trans₀ p₂ fun b z => z.elim (fun z => .inr (.inl z)) fun z => .inr (.inr (hnew b z))
    cases r₂ with
    | next => exact ⟨_, σ₂, pp, .none, q⟩
    | brk => exact ⟨_, σ₂, pp, .none, q⟩
    | cont => exact ⟨_, σ₂, pp, .none, q⟩
    | ret x => exact ⟨_, σ₂, pp, x, q⟩
theorem Cl_def {f : Addr} {params : Arguments} {body : List Stmt} {scope : Scope} {names : List Str} {vs : List AV} {mg mb : Str → Option Value} {Q : AV → AS → Prop} (T : Top0 h₀ mg mb) (X : FnAt h₀ f params body scope)
    (hb : ∀ name qual doc pm an cdv ct vals, vals.length = vs.length → bindArgs (fnOf name qual params body scope .none .none doc pm an cdv ct) ⟨vals, []⟩ = pure (names.zip vals))
    (hn : (names.all fun y => scope.names.lookup y == some .local || scope.names.lookup y == some .cell) = true)
    (h : ∀ qual cdv L, σ L = none → h₀.get? L = none → Exs prog w h₀ n (envOfC qual scope L f cdv) (bindA names vs fun _ => none) σ body fun fl _ σ' => Q fl.out σ')
    (hco : scope.isCoroutine = false := by rfl) (hgen : scope.isGenerator = false := by rfl) (hk : scope.kind = .function := by rfl) : Cl prog w h₀ (n + 1) σ (.raw (.ref f)) vs Q :=
  (Cd_def T X hb hn h hco hgen hk).cl
end
-- Fw10
section
variable {prog : Program} {w : World} {h₀ : Heap} {n : Nat} {env : Env} {ρ : Rho} {σ : AS} {K : Frag}

noncomputable def closF (env : Env) : List (Str × NameKind) → List (Str × Addr) → Option (List (Str × Addr))
  | [], acc => some acc
  | (x, k) :: r, acc => if (k == .free) = true then (if (env.kindOf x == some .cell || env.kindOf x == some .free) = true then (match env.cells.lookup x with | some c => closF env r ((x, c) :: acc) | none => none) else none) else closF env r acc
theorem closF_go {f : Str × NameKind → List (Str × Addr) → Sem (ForInStep (List (Str × Addr)))}
    (hf : ∀ x k acc, f (x, k) acc = if (k == .free) = true then (do let c ← cellOf env x; pure (.yield ((x, c) :: acc))) else pure (.yield acc)) :
    ∀ (names : List (Str × NameKind)) (acc cl : List (Str × Addr)), closF env names acc = some cl → forIn names acc f = pure cl
  | [], acc, cl, h => by cases h; rfl
  | (x, k) :: r, acc, cl, h => by
    rw [List.forIn_cons, hf]
    unfold closF at h
    split at h
    · rename_i hk
      rw [if_pos hk]
      split at h
      · split at h
        · rename_i c hc
          have : cellOf env x = pure c := by unfold cellOf; rw [hc]
          rw [this]
          exact closF_go hf r _ cl h
        · cases h
      · cases h
    · rename_i hk
      rw [if_neg hk]
      exact closF_go hf r _ cl h
theorem closF_eq {scope : Scope} {cl : List (Str × Addr)} (h : closF env scope.names [] = some cl) : closureFor scope env = pure cl := by
  simp only [closureFor]
  rw [closF_go (env := env) (fun x k acc => by cases hk : (k == NameKind.free) <;> simp [hk]) scope.names [] cl h]
  rfl
theorem closF_mem : ∀ (names : List (Str × NameKind)) (acc cl : List (Str × Addr)), closF env names acc = some cl → (∀ p ∈ acc, env.cells.lookup p.1 = some p.2 ∧ (env.kindOf p.1 = some .cell ∨ env.kindOf p.1 = some .free)) →
    ∀ p ∈ cl, env.cells.lookup p.1 = some p.2 ∧ (env.kindOf p.1 = some .cell ∨ env.kindOf p.1 = some .free)
  | [], acc, cl, h, ha => by cases h; exact ha
  | (x, k) :: r, acc, cl, h, ha => by
    unfold closF at h
    split at h
    · split at h
      · rename_i hk
        split at h
        · rename_i c hc
          refine closF_mem r _ cl h fun p hp => ?_
          rcases List.mem_cons.mp hp with rfl | hp
          · refine ⟨hc, ?_⟩
            rcases Bool.or_eq_true_iff.mp hk with q | q
            · exact .inl (by simpa using q)
            · exact .inr (by simpa using q)
          · exact ha p hp
        · cases h
      · cases h
    · exact closF_mem r acc cl h ha

noncomputable def inner (cenv : Env) (ρ : Rho) : Rho := fun y => if cenv.kindOf y = some .local then none else ρ y
theorem inner_get {cenv : Env} {ρ : Rho} {y : Str} {v : AV} (hv : ρ y = some v) (h : (cenv.kindOf y == some .local) = false := by rfl) : inner cenv ρ y = some v := by
  unfold inner
  rw [if_neg (by intro e; rw [e] at h; simp at h)]
  exact hv
theorem Rho.set_set (ρ : Rho) (x : Str) (u v : AV) : (ρ.set x u).set x v = ρ.set x v := by
  funext y; unfold Rho.set; split <;> rfl

theorem store_local' {A : Around} {s : Shared} {x : Str} {v : AV} {a : Value} {Q : Unit → Shared → Prop} (rl : Rel prog w h₀ σ s.heap) (F : FR h₀ env ρ σ s.heap) (r : VR s.heap v a) (hx : env.kindOf x = some .local)
    (h : ∀ s', Post prog w h₀ (fun b => dom σ b ∨ b = env.locals) s σ s' → FR h₀ env (ρ.set x v) σ s'.heap → Q () s') : wpAny (model prog w) A (storeName env x a) Q NoE s := by
  obtain ⟨m, hm, ho⟩ := F.ns
  refine wpAny_storeName_local hx hm (fun h' hn hs => ?_) (by rw [F.kind]; rfl)
  have hL := F.lap
  have hk : ∀ b o, b ≠ env.locals → s.heap.get? b = some o → h'.get? b = some o := fun b o q e => hs.extBut b o q e
  have ht : TupsKeep s.heap h' := tups_of' (U := fun b => b = env.locals) (fun b o q e => hk b o q e) (fun b q o e items k hd => by
    subst q
    obtain ⟨m', ⟨o', es, ep, h1, h2, _⟩, _⟩ := F.ns
    rw [h1] at e; cases e
    rw [h2] at hd; cases hd)
  refine h _ ⟨⟨fun b o e => hk b o (fun q => by subst q; rw [F.lnew] at e; cases e) (rl.base b o e), rl.apart, fun b o e => (rl.at' b o e).mono ht fun ob => hk b ob fun q => by subst q; rw [hL] at e; cases e⟩,
    fun b o q e => hk b o (fun z => q (.inr z)) e, fun b o e q => absurd (.inl (dom_iff.mpr ⟨o, e⟩)) q, ht, fun b o e => by
      by_cases q : b = env.locals
      · subst q; obtain ⟨o', _, _, h1, _⟩ := hn; exact ⟨o', h1⟩
      · exact ⟨o, hk b o q e⟩, _, _, rfl⟩ ⟨⟨_, hn, fun y hy => ?_⟩, fun y c e => ?_, F.kind, F.glob, F.blt, F.lnew, F.cnew, F.lap, F.cap, F.cl, F.inj⟩
  · unfold Rho.set
    by_cases q : y = x
    · rw [if_pos q, if_pos q]; exact r.mono ht
    · rw [if_neg q, if_neg q]; exact (ho y hy).mono ht
  · obtain ⟨v', ⟨o, h1, h2⟩, h3⟩ := F.cell y c e
    refine ⟨v', ⟨o, hk _ _ (F.cl y c e) h1, h2⟩, fun q => ?_⟩
    unfold Rho.set
    by_cases q' : y = x
    · subst q'; rw [hx] at q; rcases q with q | q <;> cases q
    · rw [if_neg q']; exact (h3 q).mono ht

variable (prog w) in
noncomputable def Ts (h₀ : Heap) (n : Nat) (env : Env) (ρ : Rho) (σ : AS) (ifs : List Expr) (Q : Bool → AS → Prop) : Prop := match ifs with
  | [] => Q true σ
  | [c] => Tr prog w h₀ n env ρ σ c Q
  | _ => False

theorem list_tk {h h' : Heap} {D : Addr} {items : Array Value} (hD : h.PlainList D items) (he : Heap.ExtBut D h h') : TupsKeep h h' := by
  obtain ⟨k, hD⟩ := hD
  exact tups_of (U := fun b => b = D) (fun b o q e => he b o q e) fun b q o e => by subst q; rw [hD] at e; cases e; show Value.type "list" ≠ _; decide

theorem comp_frame {s s₃ : Shared} {scope : Scope} {cl : List (Str × Addr)} {σ₁ : AS} {h₁ : Heap} {tk : Nat} (F : FR h₀ env ρ σ₁ s.heap) (hcl : closF env scope.names [] = some cl) (hk : scope.kind = .function)
    (rl : Rel prog w h₀ σ₁ s.heap) (hold : ∀ b o, s.heap.get? b = some o → h₁.get? b = some o) {C : Addr} (hC : s.heap.get? C = none) (hns : h₁.Ns C fun _ => none) :
    FR h₀ (compEnvC scope cl C env) (inner (compEnvC scope cl C env) ρ) σ₁ h₁ := by
  have mem := fun x c (e : cl.lookup x = some c) => closF_mem _ _ _ hcl (fun p hp => nomatch hp) (x, c) (mem_of_lookup e)
  have ht : TupsKeep s.heap h₁ := fun a items ⟨o, h1, r⟩ => ⟨o, hold _ _ h1, r⟩
  refine ⟨⟨_, hns, fun x hx => ?_⟩, fun x c e => ?_, hk, F.glob, F.blt, ?_, fun x c e => F.cnew x c (mem x c e).1, rl.none_of_new hC, fun x c e => F.cap x c (mem x c e).1, fun x c e q => ?_, fun x y c e e' => F.inj x y c (mem x c e).1 (mem y c e').1⟩
  · unfold inner; rw [if_pos hx]; trivial
  · obtain ⟨v, ⟨o, h1, h2⟩, h3⟩ := F.cell x c (mem x c e).1
    refine ⟨v, ⟨o, hold _ _ h1, h2⟩, fun q => ?_⟩
    unfold inner
    rw [if_neg (by rcases q with q | q <;> rw [q] <;> decide)]
    exact (h3 (mem x c e).2).mono ht
  · cases e : h₀.get? C with
    | none => exact e
    | some o => rw [rl.base C o e] at hC; cases hC
  · obtain ⟨v, ⟨o, h1, h2⟩, h3⟩ := F.cell x c (mem x c e).1
    have : c = C := q
    subst this
    rw [hC] at h1; cases h1

theorem comp_loop {A : Around} {elt iter : Expr} {x : Str} {px pos : Pos} {ifs : List Expr} {scope : Scope} {s s₄ : Shared} {I D : Addr} {vs : List AV} {G : AS → Prop} {St : Nat → Heap → Prop} {cenv : Env} {ρ₀ : Rho} {R : Result → Shared → Prop} {σ₁ : AS}
    (Inv : Nat → List AV → AS → Prop) (ok : Ok n A) (W : AIt prog w h₀ I vs G St) (hlen : vs.length ≤ sizeLine)
    (p : Post prog w h₀ (dom σ) s σ₁ s₄) (F : FR h₀ cenv ρ₀ σ₁ s₄.heap) (hsI : s.heap.get? I = none) (hsD : s.heap.get? D = none) (hsC : s.heap.get? cenv.locals = none) (hID : I ≠ D) (hI₀ : h₀.get? I = none) (hD₀ : h₀.get? D = none)
    (hfI : ¬ inFrame cenv I) (hfD : ¬ inFrame cenv D) (hD : s₄.heap.PlainList D #[]) (hσD : σ₁ D = none) (hσI : σ₁ I = none) (st : St 0 s₄.heap) (hx : cenv.kindOf x = some .local)
    (hinv : Inv 0 [] σ₁) (hG : ∀ i acc σ', i ≤ vs.length → Inv i acc σ' → G σ')
    (hturn : ∀ i v acc σ', vs[i]? = some v → Inv i acc σ' → Ts prog w h₀ n cenv (ρ₀.set x v) σ' ifs fun t σ₂ => if t then Ev prog w h₀ n cenv (ρ₀.set x v) σ₂ elt fun u σ₃ => Inv (i + 1) (acc ++ [u]) σ₃ else Inv (i + 1) acc σ₂)
    (hR : ∀ s' σ' acc items ρ', Post prog w h₀ (dom σ) s σ' s' → FR h₀ cenv ρ' σ' s'.heap → s'.heap.PlainList D items → VRs s'.heap acc items.toList → σ' D = none → acc.length ≤ vs.length → Inv vs.length acc σ' → R (.ok .next) s') :
    codeAny (model prog w) A (.compLoop (.ListComp elt [⟨.Name x px, iter, ifs, 0⟩] scope pos) 0 (.ref I) (.ref D) cenv) R s₄ := by
  refine codeAny_compLoop_tests (fun k s' => ∃ i acc σ' ρ' items, Post prog w h₀ (dom σ) s σ' s' ∧ FR h₀ cenv ρ' σ' s'.heap ∧ (∀ v, ρ'.set x v = ρ₀.set x v) ∧ s'.heap.PlainList D items ∧ VRs s'.heap acc items.toList ∧ acc.length ≤ i ∧ σ' D = none ∧ σ' I = none ∧ St i s'.heap ∧ Inv i acc σ' ∧ i ≤ vs.length ∧ k = vs.length + 1 - i) ?_ (vs.length + 1)
    ⟨0, [], σ₁, ρ₀, #[], p, F, fun _ => rfl, hD, .nil, Nat.le_refl _, hσD, hσI, st, hinv, Nat.zero_le _, rfl⟩
  rintro k s' ⟨i, acc, σ', ρ', items, p', F', hρ, hD', hacc, hal, hD'', hI'', st', hi, hle, rfl⟩
  by_cases hlt : i < vs.length
  · obtain ⟨v, hv⟩ : ∃ v, vs[i]? = some v := ⟨_, List.getElem?_eq_getElem hlt⟩
    refine W.item i A s' σ' _ _ v ok.handled p'.rel (hG _ _ _ hle hi) st' hv fun a h₁ tk₁ ra st₁ he => ?_
    have tk := W.tk i _ _ st' he
    have p₁ := p'.ext (tk := tk₁) hsI hI'' hI₀ tk he
    have F₁ := F'.ext hfI tk he
    have D₁ : h₁.PlainList D items := hD'.extBut he (Ne.symm hID)
    have a₁ := hacc.mono tk
    refine noE (wpAny_assign_Name (store_local' (ρ := ρ') p₁.rel F₁ ra hx fun s₂ p₂ F₂ => ?_))
    rw [hρ] at F₂
    have pp₂ : Post prog w h₀ (dom σ) s σ' s₂ := p₁.trans₀ p₂ fun b z => z.elim (fun z => .inr (.inl z)) fun z => .inr (.inr (by rw [z]; exact hsC))
    have nC : ∀ b, b ≠ cenv.locals → σ' b = none → ¬ (dom σ' b ∨ b = cenv.locals) := fun b q e z => z.elim (fun d => not_dom.mpr e d) q
    have nD : D ≠ cenv.locals := fun e => hfD (.inl e)
    have nI : I ≠ cenv.locals := fun e => hfI (.inl e)
    have D₂ : s₂.heap.PlainList D items := D₁.at fun o e => p₂.keep D o (nC D nD hD'') e
    have st₂ := W.frame _ _ _ st₁ (fun o e => p₂.keep I o (nC I nI hI'') e) p₂.tups
    -- what follows when the element is asked or not
    have fin : ∀ (σ₃ : AS) (s₃ : Shared), Post prog w h₀ (dom σ') s₂ σ₃ s₃ → Post prog w h₀ (dom σ) s σ₃ s₃ ∧ FR h₀ cenv (ρ₀.set x v) σ₃ s₃.heap ∧ s₃.heap.PlainList D items ∧ VRs s₃.heap acc items.toList ∧ σ₃ D = none ∧ σ₃ I = none ∧ St (i + 1) s₃.heap := fun σ₃ s₃ p₃ => by
      obtain ⟨kD, gD⟩ := id D₂
      obtain ⟨oI, gI⟩ := W.got _ _ st₂
      refine ⟨pp₂.trans' p₃, F₂.post p₃, D₂.at fun o e => p₃.keep D o (not_dom.mpr hD'') e, p₃.vrs (p₂.vrs a₁), ?_, ?_, W.frame _ _ _ st₂ (fun o e => p₃.keep I o (not_dom.mpr hI'') e) p₃.tups⟩
      · cases e : σ₃ D with
        | none => rfl
        | some o => rw [p₃.fresh D o e (not_dom.mpr hD'')] at gD; cases gD
      · cases e : σ₃ I with
        | none => rfl
        | some o => rw [p₃.fresh I o e (not_dom.mpr hI'')] at gI; cases gI
    have after : ∀ (t : Bool) (σ₃ : AS) (s₃ : Shared), Post prog w h₀ (dom σ') s₂ σ₃ s₃ → (if t then Ev prog w h₀ n cenv (ρ₀.set x v) σ₃ elt (fun u σ₄ => Inv (i + 1) (acc ++ [u]) σ₄) else Inv (i + 1) acc σ₃) →
        (if t = true then wpAny (model prog w) A (eval elt cenv) (fun u s₄ => wpAny (model prog w) A (call (.builtin "list.append") [.ref D, u]) (fun _ s₅ => ∃ m, m < vs.length + 1 - i ∧ ∃ i' acc' σ'' ρ'' items', Post prog w h₀ (dom σ) s σ'' s₅ ∧ FR h₀ cenv ρ'' σ'' s₅.heap ∧ (∀ v, ρ''.set x v = ρ₀.set x v) ∧ s₅.heap.PlainList D items' ∧ VRs s₅.heap acc' items'.toList ∧ acc'.length ≤ i' ∧ σ'' D = none ∧ σ'' I = none ∧ St i' s₅.heap ∧ Inv i' acc' σ'' ∧ i' ≤ vs.length ∧ m = vs.length + 1 - i') NoE s₄) NoE s₃
          else ∃ m, m < vs.length + 1 - i ∧ ∃ i' acc' σ'' ρ'' items', Post prog w h₀ (dom σ) s σ'' s₃ ∧ FR h₀ cenv ρ'' σ'' s₃.heap ∧ (∀ v, ρ''.set x v = ρ₀.set x v) ∧ s₃.heap.PlainList D items' ∧ VRs s₃.heap acc' items'.toList ∧ acc'.length ≤ i' ∧ σ'' D = none ∧ σ'' I = none ∧ St i' s₃.heap ∧ Inv i' acc' σ'' ∧ i' ≤ vs.length ∧ m = vs.length + 1 - i') := fun t σ₃ s₃ p₃ ht => by
      obtain ⟨q₁, q₂, q₃, q₄, q₅, q₆, q₇⟩ := fin σ₃ s₃ p₃
      cases t with
      | false => exact ⟨vs.length + 1 - (i + 1), by omega, i + 1, acc, σ₃, _, items, q₁, q₂, fun u => Rho.set_set .., q₃, q₄, by omega, q₅, q₆, q₇, ht, hlt, rfl⟩
      | true =>
        refine wpAny_mono (ht A s₃ ok p₃.rel q₂) (fun u s₄ ⟨uv, σ₄, p₄, r₄, h₄⟩ => ?_) fun _ _ z => z
        obtain ⟨w₁, w₂, w₃, w₄, w₅, w₆, w₇⟩ := fin σ₄ s₄ (p₃.trans' p₄)
        have hsz : acc.length = items.size := by simpa using w₄.length
        refine wpAny_list_append_plain w₃ (fun h₅ D₅ e₅ => ?_) (by omega)
        have t₅ := list_tk w₃ e₅.extBut
        refine ⟨vs.length + 1 - (i + 1), by omega, i + 1, acc ++ [uv], σ₄, ρ₀.set x v, items.push u, w₁.ext (tk := s₄.toks) hsD w₅ hD₀ t₅ e₅.extBut, w₂.ext hfD t₅ e₅.extBut, fun u => Rho.set_set .., D₅, ?_, by rw [List.length_append, List.length_singleton]; omega, w₅, w₆, W.frame _ _ _ w₇ (fun o e => e₅.extBut I o hID e) t₅, h₄, hlt, rfl⟩
        rw [Array.toList_push]
        exact (w₄.mono t₅).snoc (r₄.mono t₅)
    have g := hturn i v acc σ' hv hi
    match ifs, g with
    | [], g =>
      have z := after true σ' s₂ (.refl p₂.rel fun _ d => d) g
      exact wpAny_tests_nil (by simp only [if_true] at z ⊢; exact noE (wpAny_mono z (fun _ _ y => noE y) fun _ _ y => y))
    | [c], g =>
      refine wpAny_tests_one (noE (wpAny_mono (g A s₂ ok p₂.rel F₂) (fun t s₃ ⟨σ₃, p₃, h₃⟩ => ?_) fun _ _ z => z))
      have z := after t σ₃ s₃ p₃ h₃
      cases t with
      | false => exact z
      | true => exact noE (wpAny_mono z (fun _ _ y => noE y) fun _ _ y => y)
  · have hin : i = vs.length := by omega
    subst hin
    refine W.done _ A s' σ' _ _ ok.handled p'.rel (hG _ _ _ hle hi) st' (Nat.le_refl _) fun h₁ tk₁ he => ?_
    have tk := W.tk _ _ _ st' he
    exact hR _ σ' acc items ρ' (p'.ext (tk := tk₁) hsI hI'' hI₀ tk he) (F'.ext hfI tk he) (hD'.extBut he (Ne.symm hID)) (hacc.mono tk) hD'' hal hi
end
-- Fw11
section
variable {prog : Program} {w : World} {h₀ : Heap} {n : Nat} {env : Env} {ρ : Rho} {σ : AS} {K : Frag}

theorem Post.track {s s' : Shared} {σ' : AS} {U : Addr → Prop} {D : Addr} {o : AO} (p : Post prog w h₀ U s σ' s') (hs : s.heap.get? D = none) (hD₀ : h₀.get? D = none) (ho : AR prog w s'.heap D o) : Post prog w h₀ U s (σ'.set D o) s' where
  rel := ⟨p.rel.base, fun b q e => by
    rw [AS.set_eq] at e; split at e
    · rename_i z; rw [z]; exact hD₀
    · exact p.rel.apart b q e, fun b q e => by
    rw [AS.set_eq] at e; split at e
    · rename_i z; cases e; rw [z]; exact ho
    · exact p.rel.at' b q e⟩
  keep := p.keep
  fresh := fun b q e u => by
    rw [AS.set_eq] at e; split at e
    · rename_i z; rw [z]; exact hs
    · exact p.fresh b q e u
  tups := p.tups
  stay := p.stay
  same := p.same

noncomputable def scopeOk (scope : Scope) (x : Str) : Bool := (scope.names.all fun y => y.2 != .local || scope.names.lookup y.1 == some .local) && (scope.names.all fun y => y.2 != .cell) && scope.names.lookup x == some .local && scope.kind == .function
theorem scopeOk_of {scope : Scope} {x : Str} (h : scopeOk scope x = true) : (∀ y ∈ scope.names, y.2 = .local → scope.names.lookup y.1 = some .local) ∧ (∀ y ∈ scope.names, y.2 ≠ .cell) ∧ scope.names.lookup x = some .local ∧ scope.kind = .function := by
  unfold scopeOk at h
  simp only [Bool.and_eq_true] at h
  obtain ⟨⟨⟨h1, h2⟩, h3⟩, h4⟩ := h
  refine ⟨fun y hy e => ?_, fun y hy e => ?_, by simpa using h3, by simpa using h4⟩
  · have := List.all_eq_true.mp h1 y hy
    rw [e] at this
    simpa using this
  · have := List.all_eq_true.mp h2 y hy
    rw [e] at this
    simp at this

theorem comp_block {A : Around} {elt iter : Expr} {x : Str} {px pos : Pos} {ifs : List Expr} {scope : Scope} {cl : List (Str × Addr)} {s s₂ : Shared} {it : Value} {RR : Value → Addr → Result → Shared → Prop}
    (Inv : Nat → List AV → AS → Prop) (ok : Ok n A) (rl : Rel prog w h₀ σ s.heap) (F : FR h₀ env ρ σ s.heap) (hcl : closF env scope.names [] = some cl) (hsc : scopeOk scope x = true) {Q : List AV → (AS → Prop) → AS → Prop}
    (hit : ItPost prog w h₀ env σ s Q it s₂)
    (hq : ∀ vs G σ₁, Q vs G σ₁ → vs.length ≤ sizeLine ∧ Inv 0 [] σ₁ ∧ (∀ i acc σ', i ≤ vs.length → Inv i acc σ' → G σ') ∧
      (∀ C i v acc σ', vs[i]? = some v → Inv i acc σ' → Ts prog w h₀ n (compEnvC scope cl C env) ((inner (compEnvC scope cl C env) ρ).set x v) σ' ifs fun t σ₂ =>
        if t then Ev prog w h₀ n (compEnvC scope cl C env) ((inner (compEnvC scope cl C env) ρ).set x v) σ₂ elt fun u σ₃ => Inv (i + 1) (acc ++ [u]) σ₃ else Inv (i + 1) acc σ₂) ∧
      (∀ D C s' acc σ' , Inv vs.length acc σ' → σ' D = none → h₀.get? D = none → D ≠ C → (∃ m, s'.heap.Ns C m) → s.heap.get? C = none → s.heap.get? D = none → σ' C = none → h₀.get? C = none →
        (∀ s'', (∃ h', Heap.SameBut C s'.heap h' ∧ s'' = { s' with heap := h' }) → Post prog w h₀ (dom σ) s (σ'.set D (.list acc)) s'') → RR (.ref D) C (.ok .next) s')) :
    wpAny (model prog w) A (newList []) (fun acc s₃ => wpAny (model prog w) A (newFunctionEnv scope env.globals cl [] env.qual none .none (some env)) (fun cenv s₄ =>
      codeAny (model prog w) A (.compStart (.ListComp elt [⟨.Name x px, iter, ifs, 0⟩] scope pos) 0 it acc { cenv with scope := relabel scope env }) (RR acc cenv.locals) s₄) NoE s₃) NoE s₂ := by
  obtain ⟨I, vs, G, σ₁, St, rfl, p, hsI, hσI, W, st, hQ⟩ := hit
  obtain ⟨hlen, hinv, hG, hturn, hR⟩ := hq vs G σ₁ hQ
  obtain ⟨hnames, hcell, hx, hkind⟩ := scopeOk_of hsc
  obtain ⟨oI, gI⟩ := W.got _ _ st
  have hIlt := Heap.lt_size gI
  refine wpAny_newObj_type (wpAny_newFunctionEnv hcell (by intro y hy; simp at hy) (fun h₁ hns₁ hsb₁ => ?_) hkind)
  dsimp only at hns₁ hsb₁ ⊢
  generalize hH2 : s₂.heap.push { cls := .type "list", dict := none, data := .seq ([] : List Value).toArray } = H2 at hns₁ hsb₁ ⊢
  have hC : H2.objs.size = s₂.heap.objs.size + 1 := by rw [← hH2, Heap.size_push]
  have newAt : ∀ a, s₂.heap.objs.size ≤ a → s₂.heap.get? a = none := fun a ha => by
    cases e : s₂.heap.get? a with
    | none => rfl
    | some o' => exact absurd (Heap.lt_size e) (Nat.not_lt.mpr ha)
  have hD2 := newAt s₂.heap.objs.size (Nat.le_refl _)
  have hC2 := newAt H2.objs.size (by rw [hC]; exact Nat.le_succ _)
  have nDC : s₂.heap.objs.size ≠ H2.objs.size := by rw [hC]; exact Nat.ne_of_lt (Nat.lt_succ_self _)
  have nlt : ∀ b, b < s₂.heap.objs.size → b ≠ H2.objs.size := fun b hb => by rw [hC]; exact Nat.ne_of_lt (Nat.lt_succ_of_lt hb)
  have old : ∀ b o, s₂.heap.get? b = some o → h₁.get? b = some o := fun b o e => hsb₁.extBut b o (nlt b (Heap.lt_size e)) (Heap.get?_push_of_some _ (hH2 ▸ Heap.get?_push_of_some _ e))
  have hacc : h₁.PlainList s₂.heap.objs.size #[] := ⟨_, hsb₁.extBut _ _ nDC (Heap.get?_push_of_some _ (hH2 ▸ Heap.get?_push_size _ rfl))⟩
  have b0 : ∀ b, s.heap.get? b = none → h₀.get? b = none := fun b hb => by
    cases e : h₀.get? b with
    | none => rfl
    | some o => rw [rl.base b o e] at hb; cases hb
  have F₂ := F.post p
  have F₁ : FR h₀ (compEnvC scope cl H2.objs.size env) (inner (compEnvC scope cl H2.objs.size env) ρ) σ₁ h₁ := comp_frame (s₃ := s₂) (tk := 0) F₂ hcl hkind p.rel old hC2 hns₁
  have p₁ : ∀ k, Post prog w h₀ (dom σ) s σ₁ { s₂ with heap := h₁, toks := k } := fun k => p.trans' (keeps_post p.rel old)
  have st₁ : St 0 h₁ := W.frame _ _ _ st (fun o e => old I o e) fun a items ⟨o, g1, r⟩ => ⟨o, old _ _ g1, r⟩
  have hfr : ∀ b, s₂.heap.objs.size = b ∨ I = b → ¬ inFrame (compEnvC scope cl H2.objs.size env) b := fun b hb q => by
    rcases q with q | ⟨y, q⟩
    · have q' : b = H2.objs.size := q
      rcases hb with hb | hb
      · exact nDC (hb.trans q')
      · exact nlt I hIlt (hb.trans q')
    · have m := closF_mem _ _ _ hcl (fun p hp => nomatch hp) (y, b) (mem_of_lookup q)
      obtain ⟨o, g⟩ := F.got b (.inr ⟨y, m.1⟩)
      rcases hb with hb | hb
      · subst hb; rw [p.new hD2] at g; cases g
      · subst hb; rw [hsI] at g; cases g
  have loop : codeAny (model prog w) A (.compLoop (.ListComp elt [⟨.Name x px, iter, ifs, 0⟩] scope pos) 0 (.ref I) (.ref s₂.heap.objs.size) (compEnvC scope cl H2.objs.size env)) (RR (.ref s₂.heap.objs.size) H2.objs.size) { s₂ with heap := h₁, toks := s₂.toks + ([] : List (Str × Value)).length } := by
    refine comp_loop (σ := σ) Inv ok W hlen (p₁ _) F₁ hsI (p.new hD2) (p.new hC2) (Nat.ne_of_lt hIlt) (b0 _ hsI) (b0 _ (p.new hD2)) (hfr _ (.inr rfl)) (hfr _ (.inl rfl)) hacc (p.rel.none_of_new hD2) hσI st₁ (lookup_relabel_local hx) hinv hG (fun i v acc σ' => hturn _ i v acc σ') ?_
    intro s' σ' acc items ρ' p' F' hl hvs hD' hal hi
    refine hR _ _ s' acc σ' hi hD' (b0 _ (p.new hD2)) nDC (let ⟨m, hm, _⟩ := F'.ns; ⟨m, hm⟩) (p.new hC2) (p.new hD2) F'.lap F'.lnew ?_
    rintro s'' ⟨h', hsb, rfl⟩
    have tk : TupsKeep s'.heap h' := tups_of' (U := fun b => b = H2.objs.size) (fun b o q e => hsb.extBut b o q e) (fun b q o e items k hd => by
      subst q
      obtain ⟨m', ⟨o', es, ep, h1, h2, _⟩, _⟩ := F'.ns
      have h1' : s'.heap.get? H2.objs.size = some o' := h1
      rw [h1'] at e; cases e
      rw [h2] at hd; cases hd)
    have pe := p'.ext (tk := s'.toks) (I := H2.objs.size) (p.new hC2) F'.lap F'.lnew tk hsb.extBut
    exact pe.track (p.new hD2) (b0 _ (p.new hD2)) ⟨items, hl.extBut hsb.extBut nDC, hvs.mono tk⟩
  exact codeAny_compStart_list loop (W.self 0 A _ _ _ st₁ loop)

theorem Ev_comp {elt iter : Expr} {x : Str} {px pos : Pos} {ifs : List Expr} {scope : Scope} {cl : List (Str × Addr)} {Q : AV → AS → Prop} (Inv : Nat → List AV → AS → Prop)
    (h : EvIt prog w h₀ n env ρ σ iter fun vs G σ₁ => vs.length ≤ sizeLine ∧ Inv 0 [] σ₁ ∧ (∀ i acc σ', i ≤ vs.length → Inv i acc σ' → G σ') ∧
      (∀ C i v acc σ', vs[i]? = some v → Inv i acc σ' → Ts prog w h₀ n (compEnvC scope cl C env) ((inner (compEnvC scope cl C env) ρ).set x v) σ' ifs fun t σ₂ =>
        if t then Ev prog w h₀ n (compEnvC scope cl C env) ((inner (compEnvC scope cl C env) ρ).set x v) σ₂ elt fun u σ₃ => Inv (i + 1) (acc ++ [u]) σ₃ else Inv (i + 1) acc σ₂) ∧
      (∀ D acc σ', Inv vs.length acc σ' → σ' D = none → h₀.get? D = none → Q (.obj D) (σ'.set D (.list acc))))
    (hcl : closF env scope.names [] = some cl := by rfl) (hsc : scopeOk scope x = true := by rfl) (hs : ∀ x, foldedSetIterable iter env x = pure x := by intro _; rfl) :
    Ev prog w h₀ n env ρ σ (.ListComp elt [⟨.Name x px, iter, ifs, 0⟩] scope pos) Q := fun A s ok rl F => by
  rw [eval_ListComp]
  obtain ⟨hnames, hcell, hx, hkind⟩ := scopeOk_of hsc
  refine wpAny_comprehension_free (use := none) rfl hs (closF_eq hcl) hkind hnames (wpAny_mono (h A s ok rl F) (fun v s₁ h₁ => wpAny_mono h₁ (fun it s₂ h₂ => ?_) fun _ _ e => e) fun _ _ e => e)
  refine comp_block (RR := fun acc C => compPost (model prog w) A NoE none (PV prog w h₀ (dom σ) s Q) acc C) Inv ok rl F hcl hsc h₂ fun vs G σ₁ ⟨a, b, c, d, e⟩ => ⟨a, b, c, d, ?_⟩
  intro D C s' acc σ' hi hD hD₀ hDC hns hsC hsD hσC hC₀ hp
  obtain ⟨m, hm⟩ := hns
  exact ⟨m, hm, fun h' hsb => ⟨.obj D, _, hp _ ⟨h', hsb, rfl⟩, .obj D, e D acc σ' hi hD hD₀⟩⟩

theorem Ex_assign_comp {elt iter : Expr} {x y : Str} {px py pos spos : Pos} {ifs : List Expr} {scope : Scope} {cl : List (Str × Addr)} {Q : AF → Rho → AS → Prop} (Inv : Nat → List AV → AS → Prop)
    (h : EvIt prog w h₀ n env ρ σ iter fun vs G σ₁ => vs.length ≤ sizeLine ∧ Inv 0 [] σ₁ ∧ (∀ i acc σ', i ≤ vs.length → Inv i acc σ' → G σ') ∧
      (∀ C i v acc σ', vs[i]? = some v → Inv i acc σ' → Ts prog w h₀ n (compEnvC scope cl C env) ((inner (compEnvC scope cl C env) ρ).set x v) σ' ifs fun t σ₂ =>
        if t then Ev prog w h₀ n (compEnvC scope cl C env) ((inner (compEnvC scope cl C env) ρ).set x v) σ₂ elt fun u σ₃ => Inv (i + 1) (acc ++ [u]) σ₃ else Inv (i + 1) acc σ₂) ∧
      (∀ D acc σ', Inv vs.length acc σ' → σ' D = none → h₀.get? D = none → Q .next (ρ.set y (.obj D)) (σ'.set D (.list acc))))
    (hsw : swapsWith (.ListComp elt [⟨.Name x px, iter, ifs, 0⟩] scope pos) (some (.Name y py)) spos.line env = pure true := by rfl) (hy : env.kindOf y = some .local := by rfl)
    (hcl : closF env scope.names [] = some cl := by rfl) (hsc : scopeOk scope x = true := by rfl) (hs : ∀ x, foldedSetIterable iter env x = pure x := by intro _; rfl) :
    Ex prog w h₀ n env ρ σ (.Assign [.Name y py] (.ListComp elt [⟨.Name x px, iter, ifs, 0⟩] scope pos) spos) Q := fun A s ok rl F => by
  obtain ⟨hnames, hcell, hx, hkind⟩ := scopeOk_of hsc
  rw [exec_Assign_Name_used _ _ _ _ hsw]
  refine wpAny_bind (wpAny_standAt (wpAny_bind ?_))
  show wpAny _ A (do let _ ← comprehension (.ListComp elt [⟨.Name x px, iter, ifs, 0⟩] scope pos) scope env _ (newList []) false (eval iter env) (some (assign (.Name y py) env))) _ _ s
  refine wpAny_bind (wpAny_mono (wpAny_comprehension_free (use := some (assign (.Name y py) env)) (Q := fun _ s' => PF prog w h₀ env σ s Q .next s') (E := NoE) rfl hs (closF_eq hcl) hkind hnames (wpAny_mono (h A s ok rl F) (fun v s₁ h₁ => wpAny_mono h₁ (fun it s₂ h₂ => ?_) fun _ _ e => e) fun _ _ e => e)) (fun _ s' hq => wpAny_pure (wpAny_pure hq)) fun _ _ e => e)
  refine comp_block (RR := fun acc C => compPost (model prog w) A NoE (some (assign (.Name y py) env)) (fun _ s' => PF prog w h₀ env σ s Q .next s') acc C) Inv ok rl F hcl hsc h₂ fun vs G σ₁ ⟨a, b, c, d, e⟩ => ⟨a, b, c, d, ?_⟩
  intro D C s' acc σ' hi hD hD₀ hDC hns hsC hsD hσC hC₀ hp
  obtain ⟨m, hm⟩ := hns
  have p₀ : Post prog w h₀ (dom σ) s (σ'.set D (.list acc)) s' := hp s' ⟨s'.heap, Heap.SameBut.refl .., rfl⟩
  have F₀ := F.post p₀
  have nCL : C ≠ env.locals := fun q => by obtain ⟨o, g⟩ := F.got _ (.inl rfl); rw [← q, hsC] at g; cases g
  show wpAny _ A (assign (.Name y py) env (.ref D)) _ _ _
  refine wpAny_assign_Name (store_local' p₀.rel F₀ (.obj D) hy fun s₃ p₃ F₃ => ?_)
  have k₃ : ∀ o, s'.heap.get? C = some o → s₃.heap.get? C = some o := fun o g => p₃.keep C o (fun z => z.elim (fun d => by
    obtain ⟨o', d⟩ := dom_iff.mp d
    rw [AS.set_ne _ _ (Ne.symm hDC), hσC] at d; cases d) fun z => nCL z) g
  have hm₃ : s₃.heap.Ns C m := hm.at' k₃
  refine ⟨m, hm₃, fun h' hsb => ?_⟩
  have pp := (p₀.mono (U' := fun b => dom σ b ∨ inFrame env b) fun b d => .inl d).trans p₃ fun b z => z.elim .inr fun z => .inl (.inr (.inl z))
  have tk : TupsKeep s₃.heap h' := tups_of' (U := fun b => b = C) (fun b o q e => hsb.extBut b o q e) (fun b q o e items k hd => by
    subst q
    obtain ⟨o', es, ep, h1, h2, _⟩ := hm₃
    rw [h1] at e; cases e
    rw [h2] at hd; cases hd)
  have hσC' : (σ'.set D (.list acc)) C = none := by rw [AS.set_ne _ _ (Ne.symm hDC), hσC]
  have nfC : ¬ inFrame env C := fun q => by obtain ⟨o, g⟩ := F.got _ q; rw [hsC] at g; cases g
  exact ⟨.next, _, _, pp.ext (tk := s₃.toks) hsC hσC' hC₀ tk hsb.extBut, F₃.ext nfC tk hsb.extBut, .next, e D acc σ' hi hD hD₀⟩
end
-- Fw12
section
variable {prog : Program} {w : World} {h₀ : Heap} {n : Nat} {env : Env} {ρ : Rho} {σ : AS} {K : Frag}

theorem rep_fold {α : Type} (c : α) : ∀ (k : Nat) (acc : Array α), (List.foldl (fun x1 x2 => x1 ++ x2) acc (List.replicate k #[c])).toList = acc.toList ++ List.replicate k c
  | 0, acc => by simp
  | k + 1, acc => by
    rw [List.replicate_succ, List.foldl_cons, rep_fold c k]
    simp [List.replicate_succ]

theorem mul_raw {A : Around} {E : Value → Shared → Prop} {s : Shared} {l : Addr} {items : Array Value} {k : Nat} {x : Int} {u : Tok} {Q : Value → Shared → Prop} (hl : s.heap.get? l = some { cls := .type "list", data := .seq items k })
    (hlo : -(2 ^ 63 : Int) ≤ x) (hhi : x < 2 ^ 63) (hsz : items.size * x.toNat ≤ 2 ^ 24)
    (h : Q (.ref s.heap.objs.size) { s with heap := s.heap.push { cls := .type "list", data := .seq (List.foldl (fun x1 x2 => x1 ++ x2) #[] (List.replicate (if items.isEmpty = true then 0 else x.toNat) items)) } }) :
    wpAny (model prog w) A (binaryOp .Mult (.ref l) (.int x u)) Q E s :=
  wpAny_binaryOp_repeat_ref (T := "list") (U := "int") (by decide) ⟨_, hl, rfl⟩ (fun s' => typeIs_int s' x u) noFill_list_mul F.fills_int_mul F.slot_int_rmul repeat_list F.slot_int_index.lookup
    (call_meets F.slot_int_rmul (typeIs_int s x u) F.entry_int_rmul (F.args_int_rmul_2 _ _) (int___rmul___int_list x u l items k)
      ⟨hl, rfl, ⟨_, hl, rfl⟩, call_meets F.slot_list_mul ⟨_, hl, rfl⟩ F.entry_list_mul (F.args_list_mul_2 _ _)
        (AutoListH.list___mul___list_int_3 l items k x u (by simp [Builtin.List.listFitsIndex]; omega) (by omega) (by simp [Builtin.List.listTooLong, sizeLine]; omega)) ⟨hl, h⟩⟩)

theorem Ev_listmul {c e : Expr} {pos lpos : Pos} {Q : AV → AS → Prop}
    (h : Ev prog w h₀ n env ρ σ c fun v σ₁ => Ev prog w h₀ n env ρ σ₁ e fun k σ₂ => ∃ m : Nat, k = .int m ∧ m ≤ 2 ^ 24 ∧ ∀ a, σ₂ a = none → h₀.get? a = none → Q (.obj a) (σ₂.set a (.list (List.replicate m v))))
    (hst : starEach [c] env = (false, eval c env) :: starEach [] env := by rfl) : Ev prog w h₀ n env ρ σ (.BinOp (.List [c] lpos) .Mult e pos) Q := fun A s ok rl F => by
  have hl : Ev prog w h₀ n env ρ σ (.List [c] lpos) fun o σ₁ => ∃ a v σ₀, o = .obj a ∧ σ₁ = σ₀.set a (.list [v]) ∧ σ₀ a = none ∧ Ev prog w h₀ n env ρ σ₀ e fun k σ₂ => ∃ m : Nat, k = .int m ∧ m ≤ 2 ^ 24 ∧ ∀ a, σ₂ a = none → h₀.get? a = none → Q (.obj a) (σ₂.set a (.list (List.replicate m v))) :=
    Ev_list (Evs_cons (h.mono fun v σ₁ h₁ => Evs_nil ⟨Nat.le_of_ble_eq_true rfl, fun a ha ha0 => ⟨a, v, σ₁, rfl, rfl, ha, h₁⟩⟩) hst)
  refine wpAny_BinOp (wpAny_mono (hl A s ok rl F) (fun o s₁ ⟨ov, σ₁, p₁, r₁, a, v, σ₀, e₁, e₂, ha, h₁⟩ => ?_) fun _ _ x => x)
  subst e₁ e₂
  cases r₁
  obtain ⟨items, i1, i2⟩ := p₁.rel.at' a _ (AS.set_same ..)
  have q₁ := p₁.weaken (AS.le_set ha (o := .list [v]))
  have rel₀ := q₁.rel
  refine wpAny_mono (h₁ A s₁ ok rel₀ (F.post q₁)) (fun k s₂ ⟨kv, σ₂, p₂, r₂, m, e₃, hm, h₂⟩ => ?_) fun _ _ x => x
  subst e₃
  cases r₂
  have i1' := i1.at fun o g => p₂.keep a o (not_dom.mpr ha) g
  have i2' := p₂.vrs i2
  obtain ⟨x, hx⟩ : ∃ x, items = #[x] := by
    have : items.size = 1 := by have := i2.length; simpa using this.symm
    exact ⟨items[0], by apply Array.ext' ; match items, this with | ⟨[y]⟩, _ => rfl⟩
  subst hx
  obtain ⟨kk, i1'⟩ := i1'
  have hnew := get_push_new s₂.heap (o := default)
  have h0 : h₀.get? s₂.heap.objs.size = none := by
    cases g : h₀.get? s₂.heap.objs.size with
    | none => rfl
    | some o => rw [p₂.rel.base _ o g] at hnew; cases hnew
  refine mul_raw i1' (by omega) (by omega) (by simp; omega) ⟨.obj _, _, (q₁.trans' p₂).trans' (new_post (n := s₂.toks) (o := .list (List.replicate m v)) p₂.rel hnew (fun b o g => Heap.get?_push_of_some _ g) ⟨_, ⟨_, Heap.get?_push_size _ rfl⟩, ?_⟩), .obj _, h₂ _ (p₂.rel.none_of_new hnew) h0⟩
  rw [if_neg (by simp), rep_fold]
  simp only [Int.toNat_natCast, List.nil_append]
  have i3 : VR (s₂.heap.push { cls := .type "list", data := .seq (List.foldl (fun x1 x2 => x1 ++ x2) #[] (List.replicate (if (#[x] : Array Value).isEmpty = true then 0 else ((m : Int)).toNat) #[x])) }) v x := by
    rcases i2' with _ | ⟨i2', _⟩
    exact i2'.mono fun _ _ ⟨o, g, r⟩ => ⟨o, Heap.get?_push_of_some _ g, r⟩
  have rep : ∀ k, VRs (s₂.heap.push { cls := .type "list", data := .seq (List.foldl (fun x1 x2 => x1 ++ x2) #[] (List.replicate (if (#[x] : Array Value).isEmpty = true then 0 else ((m : Int)).toNat) #[x])) }) (List.replicate k v) (List.replicate k x) := fun k => by
    induction k with
    | zero => exact .nil
    | succ k ih => exact .cons i3 ih
  simpa using rep m

theorem VR.ne_none {h : Heap} {v : AV} {a : Value} (x : VR h v a) (hv : match v with | .none => False | .raw _ => False | _ => True) : a ≠ .none := by
  cases x <;> first | exact hv.elim | (intro e; cases e)
theorem Cmp_isnot_none {Q : AV → AS → Prop} (h : Q (.bool false) σ) : Cmp prog w h₀ n σ .IsNot .none .none Q := fun A s a b ok rl x y => by
  cases x; cases y; exact isnot_none_none ⟨_, σ, .refl rl fun _ d => d, .bool _, h⟩
theorem Cmp_isnot_tup {vs : List AV} {Q : AV → AS → Prop} (h : Q (.bool true) σ) : Cmp prog w h₀ n σ .IsNot (.tup vs) .none Q := fun A s a b ok rl x y => by
  cases y; exact isnot_none_ne (x.ne_none trivial) ⟨_, σ, .refl rl fun _ d => d, .bool _, h⟩
end
-- Fw13
section
variable {prog : Program} {w : World} {h₀ : Heap} {n : Nat} {env : Env} {ρ : Rho} {σ : AS} {K : Frag}

theorem Ex_append {o e : Expr} {apos pos cpos : Pos} {pl : Sem Bool} {Q : AF → Rho → AS → Prop} (X : K.In h₀)
    (h : Ev prog w h₀ n env ρ σ o fun ov σ₁ => ∃ a vs₁, ov = .obj a ∧ σ₁ a = some (.list vs₁) ∧ Ev prog w h₀ n env ρ σ₁ e fun v σ₂ => ∃ vs, σ₂ a = some (.list vs) ∧ vs.length ≤ sizeLine ∧ Q .next ρ (σ₂.set a (.list (vs ++ [v]))))
    (hc : eval (.Call (.Attribute o (Str.ofString "append") apos) [e] [] cpos) env = (do
      let ov ← eval o env
      standAt apos.atName
      let (f, first) ← holding [ov] (getMethod ov (Str.ofString "append") pl)
      callWith cpos f first (backTo cpos (starEach [e] env)) (backToKw cpos (keywordEach [] env))) := by rfl)
    (he : starEach [e] env = (false, eval e env) :: starEach [] env := by rfl)
    (hi : interactive env = false := by rfl) (hs : swapsWith (.Call (.Attribute o (Str.ofString "append") apos) [e] [] cpos) none pos.line env = pure false := by rfl) :
    Ex prog w h₀ n env ρ σ (.Expr (.Call (.Attribute o (Str.ofString "append") apos) [e] [] cpos) pos) Q :=
  Ex_expr (Ev_mcall (pl := pl) X (h.mono fun ov σ₁ ⟨a, vs₁, e₁, h₁, h₂⟩ => by
    subst e₁
    exact Meth_append h₁ ⟨.inl rfl, Evs_cons (h₂.mono fun v σ₂ ⟨vs, g₁, g₂, g₃⟩ => Evs_nil (Cl_append g₁ g₂ ⟨rfl, g₃⟩)) he⟩) hc he) hi hs
end
-- Fw14
section
variable {prog : Program} {w : World} {h₀ : Heap} {n : Nat} {env : Env} {ρ : Rho} {σ : AS} {K : Frag}

/-! f-strings -/
theorem joins_mono {M : Model} {A : Around} {E : Value → Shared → Prop} : ∀ (parts : List (Sem Value)) (acc : Str) (Q Q' : Str → Shared → Prop) (s : Shared), Joins M A E parts acc Q s → (∀ o s, Q o s → Q' o s) → Joins M A E parts acc Q' s
  | [], _, _, _, _, h, k => k _ _ h
  | x :: r, acc, Q, Q', s, h, k => wpAny_mono h (fun v s₁ ⟨y, t, e, z, g⟩ => ⟨y, t, e, z, joins_mono r _ _ _ _ g k⟩) fun _ _ x => x

variable (prog w) in
noncomputable def Fs (h₀ : Heap) (n : Nat) (env : Env) (ρ : Rho) (σ : AS) (es : List Expr) (acc : Str) (Q : Str → AS → Prop) : Prop :=
  ∀ A s, Ok n A → Rel prog w h₀ σ s.heap → FR h₀ env ρ σ s.heap → Joins (model prog w) A NoE (evalEach es env) acc (fun out s₁ => ∃ σ', Post prog w h₀ (dom σ) s σ' s₁ ∧ Q out σ') s
theorem Fs_nil {acc : Str} {Q : Str → AS → Prop} (h : Q acc σ) : Fs prog w h₀ n env ρ σ [] acc Q := fun A s ok rl F => ⟨σ, .refl rl fun _ d => d, h⟩
theorem Fs_cons {e : Expr} {es : List Expr} {acc : Str} {Q : Str → AS → Prop} (h : Ev prog w h₀ n env ρ σ e fun v σ₁ => ∃ y, v = .str y ∧ (acc ++ y).length ≤ sizeLine ∧ Fs prog w h₀ n env ρ σ₁ es (acc ++ y) Q)
    (he : evalEach (e :: es) env = eval e env :: evalEach es env := by rfl) : Fs prog w h₀ n env ρ σ (e :: es) acc Q := fun A s ok rl F => by
  rw [he]
  refine wpAny_mono (h A s ok rl F) (fun a s₁ ⟨v, σ₁, p₁, r₁, y, e₁, hz, h₁⟩ => ?_) fun _ _ x => x
  subst e₁
  cases r₁
  exact ⟨y, _, rfl, hz, joins_mono _ _ _ _ _ (h₁ A s₁ ok p₁.rel (F.post p₁)) fun o s₂ ⟨σ₂, p₂, q⟩ => ⟨σ₂, p₁.trans' p₂, q⟩⟩
theorem Ev_fstr {e₁ e₂ : Expr} {es : List Expr} {pos : Pos} {Q : AV → AS → Prop} (h : Fs prog w h₀ n env ρ σ (e₁ :: e₂ :: es) Str.empty fun out σ' => out.length ≤ sizeLine ∧ Q (.str out) σ') :
    Ev prog w h₀ n env ρ σ (.JoinedStr (e₁ :: e₂ :: es) pos) Q := fun A s ok rl F =>
  wpAny_JoinedStr (joins_mono _ _ _ _ _ (h A s ok rl F) fun o s₁ ⟨σ₁, p₁, hz, q⟩ => ⟨hz, _, σ₁, p₁.trans' (toks_post p₁.rel _), .str _ _, q⟩)
theorem Ev_fmt {value : Expr} {pos : Pos} {Q : AV → AS → Prop} (h : Ev prog w h₀ n env ρ σ value fun v σ₁ => ∃ i : Int, v = .int i ∧ i.natAbs.log2 < 1920 ∧ Q (.str (Str.ofString (toString i))) σ₁) :
    Ev prog w h₀ n env ρ σ (.FormattedValue value (-1) none pos) Q := fun A s ok rl F =>
  wpAny_FormattedValue_plain (wpAny_mono (h A s ok rl F) (fun a s₁ ⟨v, σ₁, p₁, r₁, i, e₁, hi, q⟩ => by
    subst e₁
    cases r₁
    exact wpAny_formatField_int hi ⟨_, σ₁, p₁.trans' (toks_post p₁.rel _), .str _ _, q⟩) fun _ _ x => x)

/-! methods of str -/
theorem Meth_str {x : Str} {name : Str} {id : String} {Q : Value → List AV → Prop} (slot : Slot "str" name id) (hty : typeOf (.builtin id) = pure (.type "method_descriptor"))
    (h : Q (.builtin id) [.str x]) : Meth prog w h₀ n σ (.str x) name Q := fun A s a pl ok rl r => by
  cases r
  exact getMethod_builtin (typeIs_str _ _ _) PySem.F.plainAttrs_str slot hty (fun _ e => nomatch e) ⟨[.str x], rfl, .one (.str x _), h⟩
theorem Meth_join {x : Str} {Q : Value → List AV → Prop} (h : Q (.builtin "str.join") [.str x]) : Meth prog w h₀ n σ (.str x) (Str.ofString "join") Q := Meth_str PySem.F.slot_str_join PySem.F.type_str_join h
theorem Meth_split {x : Str} {Q : Value → List AV → Prop} (h : Q (.builtin "str.split") [.str x]) : Meth prog w h₀ n σ (.str x) (Str.ofString "split") Q := Meth_str PySem.F.slot_str_split PySem.F.type_str_split h
theorem Meth_startswith {x : Str} {Q : Value → List AV → Prop} (h : Q (.builtin "str.startswith") [.str x]) : Meth prog w h₀ n σ (.str x) (Str.ofString "startswith") Q := Meth_str PySem.F.slot_str_startswith PySem.F.type_str_startswith h
theorem Cl_startswith {x y : Str} {Q : AV → AS → Prop} (h : Q (.bool (Txt.startswith x y)) σ) : Cl prog w h₀ n σ (.raw (.builtin "str.startswith")) [.str x, .str y] Q := fun A s f as ok rl z zs => by
  cases z
  rcases zs with _ | ⟨z, zs⟩
  cases z
  rcases zs with _ | ⟨z, zs⟩
  cases z; cases zs
  exact SC.startswith ⟨_, σ, .refl rl fun _ d => d, .bool _, h⟩
theorem strs_of {h : Heap} : ∀ {ts : List Str} {items : List Value}, VRs h (ts.map .str) items → ∃ l, items = strValues l ∧ l.map (·.1) = ts
  | [], _, .nil => ⟨[], rfl, rfl⟩
  | t :: ts, _, .cons hv hs => by
    cases hv with
    | str _ u =>
    obtain ⟨l, e1, e2⟩ := strs_of hs
    exact ⟨(t, u) :: l, by rw [e1]; rfl, by rw [List.map_cons, e2]⟩
theorem vrs_strs {h : Heap} : ∀ (l : List (Str × Tok)), VRs h ((l.map (·.1)).map .str) (strValues l)
  | [] => .nil
  | (t, u) :: l => .cons (.str t u) (vrs_strs l)
theorem Cl_join {x : Str} {a : Addr} {ts : List Str} {Q : AV → AS → Prop} (ha : σ a = some (.list (ts.map .str))) (hok : JoinOk x ts = true) (h : Q (.str (Txt.join x ts)) σ) :
    Cl prog w h₀ n σ (.raw (.builtin "str.join")) [.str x, .obj a] Q := fun A s f as ok rl z zs => by
  cases z
  rcases zs with _ | ⟨z, zs⟩
  cases z
  rcases zs with _ | ⟨z, zs⟩
  cases z; cases zs
  obtain ⟨items, i1, i2⟩ := rl.at' _ _ ha
  obtain ⟨l, e1, rfl⟩ := strs_of i2
  have e2 : items = (strValues l).toArray := by rw [← e1]
  subst e2
  unfold JoinOk at hok
  rw [Bool.not_eq_true'] at hok
  exact call_meets PySem.F.slot_str_join (typeIs_str _ _ _) PySem.F.entry_str_join (PySem.F.args_str_join_2 _ _) (meets_str_join_list x _ a l hok) ⟨i1.isList, post_join l ⟨joinFit_length hok, fun t' k => ⟨_, σ, toks_post rl _, .str _ _, h⟩⟩⟩
theorem newlist_post {s : Shared} {l : List (Str × Tok)} {k : Nat} {Q : AV → AS → Prop} (rl : Rel prog w h₀ σ s.heap) (h : ∀ D, σ D = none → h₀.get? D = none → Q (.obj D) (σ.set D (.list ((l.map (·.1)).map .str)))) :
    PV prog w h₀ (dom σ) s Q (.ref s.heap.objs.size) { s with toks := k, heap := s.heap.push { cls := .type "list", data := .seq (strValues l).toArray } } := by
  have hnew := get_push_new s.heap (o := default)
  have h0 : h₀.get? s.heap.objs.size = none := by
    cases g : h₀.get? s.heap.objs.size with
    | none => rfl
    | some o => rw [rl.base _ o g] at hnew; cases hnew
  exact ⟨.obj _, _, new_post (n := k) (o := .list ((l.map (·.1)).map .str)) rl hnew (fun b o g => Heap.get?_push_of_some _ g) ⟨_, ⟨_, Heap.get?_push_size _ rfl⟩, by simpa using vrs_strs l⟩, .obj _, h _ (rl.none_of_new hnew) h0⟩
theorem Cl_split0 {x : Str} {Q : AV → AS → Prop} (hx : x.length ≤ sizeLine) (hn : (Builtin.Str.spaceWords x (x.length + 1)).length ≤ sizeLine)
    (h : ∀ D, σ D = none → h₀.get? D = none → Q (.obj D) (σ.set D (.list ((Txt.words x).map .str)))) : Cl prog w h₀ n σ (.raw (.builtin "str.split")) [.str x] Q := fun A s f as ok rl z zs => by
  cases z
  rcases zs with _ | ⟨z, zs⟩
  cases z; cases zs
  refine call_meets PySem.F.slot_str_split (typeIs_str _ _ _) PySem.F.entry_str_split (PySem.F.args_str_split_1 _) (meets_str_split_space x _ hx hn) ?_
  have e : ∀ l : List (Str × Tok), l.map (·.1) = Txt.words x → ∀ k, PV prog w h₀ (dom σ) s Q (.ref s.heap.objs.size) { s with toks := k, heap := s.heap.push { cls := .type "list", data := .seq (strValues l).toArray } } := fun l e k => newlist_post rl (by rw [e]; exact h)
  cases hw : Builtin.Str.spaceWords x (x.length + 1) == [(0, x.length)]
  · simp only [Bool.false_eq_true, if_false]
    rw [strsFrom_eq]
    exact e _ ((numbered_texts _ _).trans (if_neg (ne_true_of_eq_false hw)).symm) _
  · simp only [if_true]
    exact e [(x, _)] (if_pos hw).symm s.toks
theorem Cl_split1 {x y : Str} {Q : AV → AS → Prop} (hx : x.length ≤ sizeLine) (hy : (y.length == 0) = false) (hn : (Txt.split x y).length ≤ sizeLine)
    (h : ∀ D, σ D = none → h₀.get? D = none → Q (.obj D) (σ.set D (.list ((Txt.split x y).map .str)))) : Cl prog w h₀ n σ (.raw (.builtin "str.split")) [.str x, .str y] Q := fun A s f as ok rl z zs => by
  cases z
  rcases zs with _ | ⟨z, zs⟩
  cases z
  rcases zs with _ | ⟨z, zs⟩
  cases z; cases zs
  have e : ∀ l : List (Str × Tok), l.map (·.1) = Txt.split x y → ∀ k, PV prog w h₀ (dom σ) s Q (.ref s.heap.objs.size) { s with toks := k, heap := s.heap.push { cls := .type "list", data := .seq (strValues l).toArray } } := fun l e k => newlist_post rl (by rw [e]; exact h)
  cases h1 : (decide (x.length < y.length) || decide (Builtin.Str.strKind x < Builtin.Str.strKind y))
  · cases hf : (Builtin.Str.occurrences x y 0 x.length (x.length + 1)).isEmpty
    · have es : Txt.split x y = Builtin.Str.partsBetween x (Builtin.Str.occurrences x y 0 x.length (x.length + 1)) y.length := (if_neg (ne_true_of_eq_false h1)).trans (if_neg (ne_true_of_eq_false hf))
      rw [es] at hn
      refine call_meets PySem.F.slot_str_split (typeIs_str _ _ _) PySem.F.entry_str_split (PySem.F.args_str_split_2 _ _) (meets_str_split_sep x y _ _ h1 hy hf hx hn) ?_
      rw [strsFrom_eq]
      exact e _ ((numbered_texts _ _).trans ((if_neg (ne_true_of_eq_false h1)).trans (if_neg (ne_true_of_eq_false hf))).symm) _
    · exact call_meets PySem.F.slot_str_split (typeIs_str _ _ _) PySem.F.entry_str_split (PySem.F.args_str_split_2 _ _) (meets_str_split_not_found x y _ _ h1 hy hf) (e [(x, _)] ((if_neg (ne_true_of_eq_false h1)).trans (if_pos hf)).symm s.toks)
  · exact call_meets PySem.F.slot_str_split (typeIs_str _ _ _) PySem.F.entry_str_split (PySem.F.args_str_split_2 _ _) (meets_str_split_cannot_occur x y _ _ h1) (e [(x, _)] (if_pos h1).symm s.toks)
theorem Cl_inttext {x : Str} {i : Int} {Q : AV → AS → Prop} (hn : PySem.intText? x = some i) (hl : x.length ≤ 640) (h : Q (.int i) σ) : Cl prog w h₀ n σ (.raw (.type "int")) [.str x] Q := fun A s f as ok rl z zs => by
  cases z
  rcases zs with _ | ⟨z, zs⟩
  cases z; cases zs
  exact KIN.call_text hn hl ⟨_, σ, toks_post rl _, .int _ _, h⟩

theorem Ev_cutstr {value lower : Expr} {p pos : Pos} {Q : AV → AS → Prop}
    (h : Ev prog w h₀ n env ρ σ value fun o σ₁ => Ev prog w h₀ n env ρ σ₁ lower fun i σ₂ => ∃ x k, o = .str x ∧ i = .int k ∧ x.length ≤ sizeLine ∧ Q (.str (Txt.slice x (some k) none)) σ₂)
    (ht : ∀ o r, letTemporaryGo value o r = pure () := by intro _ _; rfl) :
    Ev prog w h₀ n env ρ σ (.Subscript value (.Slice (some lower) none none p) pos) Q := fun A s ok rl F =>
  wpAny_Subscript_str_slice (wpAny_mono (h A s ok rl F) (fun o s₁ ⟨v₁, σ₁, p₁, r₁, h₁⟩ => wpAny_mono (h₁ A s₁ ok p₁.rel (F.post p₁)) (fun i s₂ ⟨v₂, σ₂, p₂, r₂, x, k, e₁, e₂, hz, q⟩ => by
    subst e₁ e₂
    cases r₁
    cases r₂
    rw [evalPart_none]
    refine wpAny_pure ⟨x, _, some (k, _), none, rfl, rfl, rfl, ?_⟩
    exact post_val_or_str ⟨Nat.le_trans (Txt.slice_le x _ _) hz, fun t' k' => ⟨_, σ₂, (p₁.trans' p₂).trans' (push_post p₂.rel _), .str _ _, q⟩⟩) fun _ _ x => x) fun _ _ x => x) ht

theorem AIt_str {I : Addr} {x : Str} : AIt prog w h₀ I (x.cps.toList.map fun c => .str ⟨#[c]⟩) (fun _ => True) (fun i h => ∃ t, h.IsStrIter I (strIterType x) x t i) where
  frame := fun i h h' ⟨t, o, h1, r⟩ k _ => ⟨t, o, k _ h1, r⟩
  tk := fun i h h' ⟨t, o, h1, h2, h3⟩ he => fields_tk h1 h3 he
  got := fun i h ⟨t, o, h1, _⟩ => ⟨o, h1⟩
  item := fun i A s σ Q E v hh rl hg ⟨t, st⟩ hv hQ => by
    obtain ⟨o, h1, h2, h3⟩ := id st
    obtain ⟨c, hc, rfl⟩ : ∃ c, x.cps[i]? = some c ∧ v = .str ⟨#[c]⟩ := by
      rw [List.getElem?_map, Option.map_eq_some_iff] at hv
      obtain ⟨c, e1, e2⟩ := hv
      exact ⟨c, by simpa using e1, e2.symm⟩
    unfold strIterType at st hQ
    cases ha : x.cps.all (· < 128) with
    | true =>
      rw [ha] at st hQ
      exact wpAny_pyNext_ascii_item st hc fun h' hit' hs' => hQ _ h' _ (.str _ _) ⟨t, hit'⟩ hs'.extBut
    | false =>
      rw [ha] at st hQ
      exact wpAny_pyNext_wide_item st hc fun h' hit' hs' => hQ _ h' _ (.str _ _) ⟨t, hit'⟩ hs'.extBut
  done := fun i A s σ Q E hh rl hg ⟨t, st⟩ hv hQ => by
    have hn : x.cps[i]? = none := Array.getElem?_eq_none (by simpa using hv)
    unfold strIterType at st
    cases ha : x.cps.all (· < 128) with
    | true =>
      rw [ha] at st
      exact wpAny_pyNext_ascii_end hh st hn fun h' he => hQ h' s.toks he
    | false =>
      rw [ha] at st
      exact wpAny_pyNext_wide_end hh st hn fun h' he => hQ h' s.toks he
  self := fun i A s Q E ⟨t, st⟩ h => by
    unfold strIterType at st
    cases ha : x.cps.all (· < 128) with
    | true => rw [ha] at st; exact wpAny_pyIter_striter_ascii st h
    | false => rw [ha] at st; exact wpAny_pyIter_striter_wide st h
theorem EvIt_str {iter : Expr} {Q : List AV → (AS → Prop) → AS → Prop} (h : Ev prog w h₀ n env ρ σ iter fun v σ₁ => ∃ x, v = .str x ∧ Q (x.cps.toList.map fun c => .str ⟨#[c]⟩) (fun _ => True) σ₁) : EvIt prog w h₀ n env ρ σ iter Q := fun A s ok rl F =>
  wpAny_mono (h A s ok rl F) (fun v s₁ ⟨v₁, σ₁, p₁, r₁, x, e, h₁⟩ => by
    subst e
    cases r₁
    have hnew := get_push_new s₁.heap (o := default)
    exact wpAny_pyIter_strU ⟨_, _, _, σ₁, _, rfl, p₁.trans' (push_post (k := s₁.toks) p₁.rel _), p₁.new hnew, p₁.rel.none_of_new hnew, AIt_str, ⟨_, ⟨_, Heap.get?_push_size _ rfl, rfl, rfl⟩⟩, h₁⟩) fun _ _ x => x

theorem Truthy_list {a : Addr} {vs : List AV} {Q : Bool → AS → Prop} (ha : σ a = some (.list vs)) (hz : vs.length < 2 ^ 62) (h : Q (!vs.isEmpty) σ) : Truthy prog w h₀ n σ (.obj a) Q := fun A s x ok rl r => by
  cases r
  obtain ⟨items, i1, i2⟩ := rl.at' _ _ ha
  have e : vs.length = items.size := by simpa using i2.length
  refine wpAny_truthy_list i1.isList (by omega) ⟨σ, toks_post rl _, ?_⟩
  have e' : vs.isEmpty = items.isEmpty := by
    cases vs with
    | nil => rw [List.length_nil] at e; simp [Array.isEmpty, ← e]
    | cons v vs => rw [List.length_cons] at e; simp [Array.isEmpty, ← e]
  rw [← e']
  exact h
theorem Cmp_ine {i j : Int} {Q : AV → AS → Prop} (h : Q (.bool (i != j)) σ) : Cmp prog w h₀ n σ .NotEq (.int i) (.int j) Q := fun A s a b ok rl x y => by
  cases x; cases y; exact PyProof.Rows.ne_int ⟨_, σ, .refl rl fun _ d => d, .bool _, h⟩
theorem Cmp_sgt {i j : Str} {Q : AV → AS → Prop} (h : Q (.bool (j.cps.toList < i.cps.toList)) σ) : Cmp prog w h₀ n σ .Gt (.str i) (.str j) Q := fun A s a b ok rl x y => by
  cases x; cases y; exact PySem.P.gt_str ⟨_, σ, .refl rl fun _ d => d, .bool _, h⟩
end
-- Fw15
section
variable {prog : Program} {w : World} {h₀ : Heap} {n : Nat} {env : Env} {ρ : Rho} {σ : AS} {K : Frag}

theorem ints_of {h : Heap} : ∀ {ns : List Int} {items : List Value}, VRs h (ns.map .int) items → IntsAre items ns
  | [], _, .nil => .nil
  | n :: ns, _, .cons hv hs => by
    cases hv
    exact .cons _ _ (ints_of hs)
theorem vrs_ints {h : Heap} : ∀ {ns : List Int} {items : List Value}, IntsAre items ns → VRs h (ns.map .int) items
  | _, _, .nil => .nil
  | _, _, .cons n t r => .cons (.int n t) (vrs_ints r)
theorem ints_take : ∀ {ns : List Int} {items : List Value}, IntsAre items ns → ∀ k, IntsAre (items.take k) (ns.take k)
  | _, _, .nil, k => by rw [List.take_nil, List.take_nil]; exact .nil
  | _, _, .cons n t r, 0 => .nil
  | _, _, .cons n t r, k + 1 => .cons n t (ints_take r k)

theorem newobj_post {s : Shared} {items : Array Value} {vs : List AV} {k : Nat} {Q : AV → AS → Prop} (rl : Rel prog w h₀ σ s.heap) (hv : VRs s.heap vs items.toList) (h : ∀ D, σ D = none → h₀.get? D = none → Q (.obj D) (σ.set D (.list vs))) :
    PV prog w h₀ (dom σ) s Q (.ref s.heap.objs.size) { s with toks := k, heap := s.heap.push { cls := .type "list", data := .seq items } } := by
  have hnew := get_push_new s.heap (o := default)
  have h0 : h₀.get? s.heap.objs.size = none := by
    cases g : h₀.get? s.heap.objs.size with
    | none => rfl
    | some o => rw [rl.base _ o g] at hnew; cases hnew
  exact ⟨.obj _, _, new_post (n := k) (o := .list vs) rl hnew (fun b o g => Heap.get?_push_of_some _ g) ⟨_, ⟨_, Heap.get?_push_size _ rfl⟩, hv.mono fun _ _ ⟨o, g, r⟩ => ⟨o, Heap.get?_push_of_some _ g, r⟩⟩, .obj _, h _ (rl.none_of_new hnew) h0⟩

theorem Ev_cutbase {value upper : Expr} {p pos : Pos} {Q : AV → AS → Prop}
    (h : Ev prog w h₀ n env ρ σ value fun o σ₁ => Ev prog w h₀ n env ρ σ₁ upper fun i σ₂ => ∃ a vs ns, ∃ k : Nat, o = .raw (.ref a) ∧ h₀.IsList a vs.toArray ∧ IntsAre vs ns ∧ vs.length ≤ sizeLine ∧ i = .int k ∧ ∀ D, σ₂ D = none → h₀.get? D = none → Q (.obj D) (σ₂.set D (.list ((ns.take k).map .int))))
    (ht : ∀ o r, letTemporaryGo value o r = pure () := by intro _ _; rfl) :
    Ev prog w h₀ n env ρ σ (.Subscript value (.Slice none (some upper) none p) pos) Q := fun A s ok rl F =>
  wpAny_Subscript_list_slice (wpAny_mono (h A s ok rl F) (fun o s₁ ⟨v₁, σ₁, p₁, r₁, h₁⟩ => by
    rw [evalPart_none]
    refine wpAny_pure (wpAny_mono (h₁ A s₁ ok p₁.rel (F.post p₁)) (fun i s₂ ⟨v₂, σ₂, p₂, r₂, a, vs, ns, k, e₁, hl, hi, hz, e₂, q⟩ => ?_) fun _ _ x => x)
    subst e₁ e₂
    cases r₁
    cases r₂ with
    | int _ tk₂ =>
    have hl' : s₂.heap.IsList a vs.toArray := let ⟨o, ho, r⟩ := hl; ⟨o, p₂.rel.base _ _ ho, r⟩
    have p := p₁.trans' p₂
    have p₃ := push_post (k := s₂.toks) p.rel { cls := .type "slice", data := .fields #[.none, .int (k : Int) tk₂, .none] }
    refine ⟨a, vs.toArray, none, some (k : Int), rfl, hl', hz, .none, .int _ _, ?_⟩
    have e : slicePick vs.toArray none (some (k : Int)) none = (vs.take k).toArray := slicePick_upto' vs.toArray k
    rw [e]
    have := newobj_post (k := s₂.toks) (items := (vs.take k).toArray) (vs := (ns.take k).map .int) (Q := Q) p₃.rel (by simpa using vrs_ints (ints_take hi k)) q
    rw [show s₂.heap.objs.size + 1 = (s₂.heap.push { cls := .type "slice", data := .fields #[.none, .int (k : Int) tk₂, .none] }).objs.size from (Heap.size_push ..).symm]
    obtain ⟨v, σ₃, p₄, r₄, q₄⟩ := this
    exact ⟨v, σ₃, (p.trans' p₃).trans' p₄, r₄, q₄⟩) fun _ _ x => x) ht

theorem Cl_sum {a : Addr} {ns : List Int} {Q : AV → AS → Prop} (ha : σ a = some (.list (ns.map .int))) (h : ∀ i, Q (.int i) σ) : Cl prog w h₀ n σ (.raw (.builtin "sum")) [.obj a] Q := fun A s f as ok rl z zs => by
  cases z
  rcases zs with _ | ⟨z, zs⟩
  cases z; cases zs
  obtain ⟨items, i1, i2⟩ := rl.at' _ _ ha
  have hi : AllInts items := by have := (ints_of i2).allInts; simpa using this
  obtain ⟨xs, rfl⟩ := hi.items
  exact sum_intListG ok.handled i1.isList fun h' tk t' hk => ⟨_, σ, keeps_post rl hk, .int _ _, h _⟩

theorem Cl_list {a : Addr} {vs : List AV} {Q : AV → AS → Prop} (ha : σ a = some (.list vs)) (hz : vs.length ≤ sizeLine) (h : ∀ D, σ D = none → h₀.get? D = none → Q (.obj D) (σ.set D (.list vs))) : Cl prog w h₀ n σ (.raw (.type "list")) [.obj a] Q := fun A s f as ok rl z zs => by
  cases z
  rcases zs with _ | ⟨z, zs⟩
  cases z; cases zs
  obtain ⟨items, ⟨c, i1⟩, i2⟩ := rl.at' _ _ ha
  have e : vs.length = items.size := by simpa using i2.length
  have hnew := get_push_new s.heap (o := default)
  have h0 : h₀.get? s.heap.objs.size = none := by
    cases g : h₀.get? s.heap.objs.size with
    | none => rfl
    | some o => rw [rl.base _ o g] at hnew; cases hnew
  refine call_list_seq a (.inl rfl) i1 rfl rfl (fun h' c' hk hn => ?_) (by omega)
  have ht : TupsKeep s.heap h' := fun _ _ ⟨o, g, r⟩ => ⟨o, hk _ _ g, r⟩
  exact ⟨.obj _, _, new_post (n := s.toks) (o := .list vs) rl hnew hk ⟨_, ⟨_, hn⟩, i2.mono ht⟩, .obj _, h _ (rl.none_of_new hnew) h0⟩
theorem IsTup.isTuple {h : Heap} {t : Addr} {items : Array Value} (ht : IsTup h t items) : h.IsTuple t items := by
  obtain ⟨o, h1, h2, k, h3⟩ := ht
  exact ⟨o, h1, h2, k, h3⟩
theorem Cl_tuple_same {vs : List AV} {Q : AV → AS → Prop} (h : Q (.tup vs) σ) : Cl prog w h₀ n σ (.raw (.type "tuple")) [.tup vs] Q := fun A s f as ok rl z zs => by
  cases z
  rcases zs with _ | ⟨z, zs⟩
  cases zs
  cases z with
  | tup ht hs => exact call_tuple_same (IsTup.isTuple ht) ⟨_, σ, .refl rl fun _ d => d, .tup ht hs, h⟩
theorem Cl_tuple_list {a : Addr} {vs : List AV} {Q : AV → AS → Prop} (ha : σ a = some (.list vs)) (hz : vs.length ≤ sizeLine) (h : Q (.tup vs) σ) : Cl prog w h₀ n σ (.raw (.type "tuple")) [.obj a] Q := fun A s f as ok rl z zs => by
  cases z
  rcases zs with _ | ⟨z, zs⟩
  cases z; cases zs
  obtain ⟨items, i1, i2⟩ := rl.at' _ _ ha
  have e : vs.length = items.size := by simpa using i2.length
  refine call_tuple_list i1.isList (fun h' hk => ?_) (by omega)
  have hk' : ∀ b o, s.heap.get? b = some o → (h'.push { cls := .type "tuple", data := .seq items }).get? b = some o := fun b o g => Heap.get?_push_of_some _ (hk b o g)
  have ht : TupsKeep s.heap (h'.push { cls := .type "tuple", data := .seq items }) := fun _ _ ⟨o, g, r⟩ => ⟨o, hk' _ _ g, r⟩
  exact ⟨.tup vs, σ, keeps_post (n := s.toks) rl hk', .tup ⟨_, Heap.get?_push_size _ rfl, rfl, _, rfl⟩ (i2.mono ht), h⟩

theorem Bin_addlist {a b : Addr} {vs ws : List AV} {Q : AV → AS → Prop} (ha : σ a = some (.list vs)) (hb : σ b = some (.list ws)) (hz : vs.length + ws.length ≤ sizeLine) (h : ∀ D, σ D = none → h₀.get? D = none → Q (.obj D) (σ.set D (.list (vs ++ ws)))) :
    Bin prog w h₀ n σ .Add (.obj a) (.obj b) Q := fun A s x y ok rl r₁ r₂ => by
  cases r₁; cases r₂
  obtain ⟨items, ⟨c, i1⟩, i2⟩ := rl.at' _ _ ha
  obtain ⟨items', ⟨c', j1⟩, j2⟩ := rl.at' _ _ hb
  have e : vs.length = items.size := by simpa using i2.length
  have e' : ws.length = items'.size := by simpa using j2.length
  have := newobj_post (k := s.toks) (items := items ++ items') (vs := vs ++ ws) (Q := Q) rl (by rw [Array.toList_append]; exact i2.append j2) h
  exact P.add_list i1 j1 this (by omega)

theorem iadd_list {A : Around} {E : Value → Shared → Prop} {s : Shared} {l b : Addr} {items items2 : Array Value} {k k2 : Nat} {Q : Value → Shared → Prop} (hl : IsL s.heap l items k) (hb : IsL s.heap b items2 k2) (hz : items.size + items2.size ≤ sizeLine)
    (h : Q (.ref l) { s with heap := s.heap.update l (Obj.mapSeq fun x => x ++ items2) }) : wpAny (model prog w) A (inplaceOp .Add (.ref l) (.ref b)) Q E s := by
  unfold inplaceOp
  refine wpAny_holding ?_
  have ha : s.TypeIs (.ref l) "list" := ⟨_, hl, rfl⟩
  have hb' : s.TypeIs (.ref b) "list" := ⟨_, hb, rfl⟩
  have hsq : isSeqSlot (some (.builtin "list.__iadd__")) = true := by decide +kernel
  have hfi : fillsInplaceSlot (.type "list") "add" (Operator.Add == .Add) = pure false := by
    unfold fillsInplaceSlot
    show (typeLookup (.type "list") (dunderI "add") >>= fun fi => pure (fi.isSome && !isSeqSlot fi)) = pure false
    rw [PySem.F.slot_list_iadd.lookup]
    show (pure (true && !isSeqSlot (some (.builtin "list.__iadd__"))) : Sem Bool) = pure false
    rw [hsq]; rfl
  refine wpAny_bind (wpAny_typeOf ha (wpAny_bind (wpAny_of_eq hfi ?_)))
  show wpAny _ A (if false = true then _ else _) Q E s
  rw [if_neg Bool.false_ne_true]
  refine wpAny_bind (PySem.wpAny_binaryOp1_none (nm := "add") ha hb' noFill_list_add ?_)
  refine wpAny_bind (wpAny_of_eq (PySem.seqSlot_of PySem.F.slot_list_iadd.lookup hsq) ?_)
  refine wpAny_bind (wpAny_rule ?_)
  have key : wpAny (model prog w) A (call (.builtin "list.__iadd__") [.ref l, .ref b]) Q E s := by
    refine call_meets PySem.F.slot_list_iadd ha PySem.F.entry_list_iadd (PySem.F.args_list_iadd_2 _ _) (AutoSeq1.list___iadd___list_list_0 l items k b items2 k2 ?_ (by omega) (by omega)) ⟨hl, hb, h⟩
    simp [Builtin.List.listTooLong]
    omega
  exact key

theorem Ex_augcell {x : Str} {c : Addr} {pos' pos : Pos} {value : Expr} {a : Addr} {Q : AF → Rho → AS → Prop} (hx : env.kindOf x = some .cell) (hc : env.cells.lookup x = some c) (hv : ρ x = some (.obj a))
    (h : Ev prog w h₀ n env ρ σ value fun v σ₁ => ∃ b vs ws, v = .obj b ∧ σ₁ a = some (.list vs) ∧ σ₁ b = some (.list ws) ∧ vs.length + ws.length ≤ sizeLine ∧ Q .next (ρ.set x (.obj a)) (σ₁.set a (.list (vs ++ ws)))) :
    Ex prog w h₀ n env ρ σ (.AugAssign (.Name x pos') .Add value pos) Q := fun A s ok rl F => by
  refine wpAny_AugAssign_Name ?_
  obtain ⟨m, hm, ho⟩ := F.cell x c hc
  have hr := ho (.inl hx)
  rw [hv] at hr
  cases e : m with
  | none => rw [e] at hr; exact hr.elim
  | some o =>
    rw [e] at hr hm
    refine wpAny_loadName_cell F.kind hx hc hm ?_
    cases hr
    refine wpAny_mono (h A s ok rl F) (fun u s₁ ⟨v₁, σ₁, p₁, r₁, b, vs, ws, e₁, ha, hb, hz, q⟩ => ?_) fun _ _ x => x
    subst e₁
    cases r₁
    obtain ⟨items, ⟨k, i1⟩, i2⟩ := p₁.rel.at' _ _ ha
    obtain ⟨items', ⟨k', j1⟩, j2⟩ := p₁.rel.at' _ _ hb
    have e1 : vs.length = items.size := by simpa using i2.length
    have e2 : ws.length = items'.size := by simpa using j2.length
    refine iadd_list i1 j1 (by omega) ?_
    have p₂ := upd_post (n := s₁.toks) (o' := .list (vs ++ ws)) p₁.rel ha (h' := s₁.heap.update a (Obj.mapSeq fun x => x ++ items')) (fun b' o q e => (Heap.get?_update_other _ _ (Ne.symm q)).trans e)
      (fun ht => ⟨items ++ items', ⟨_, Heap.get?_update_self _ i1 rfl⟩, by rw [Array.toList_append]; exact (i2.mono ht).append (j2.mono ht)⟩)
    have p := p₁.trans' p₂
    exact wpAny_mono (store_cell (Q := fun ρ' σ' => Q .next ρ' σ') p.rel (F.post p) (.obj a) hx hc q) (PN.next p) fun _ _ x => x

/-! in -/
theorem Cmp_in_int {a : Addr} {ns : List Int} {i : Int} {Q : AV → AS → Prop} (ha : σ a = some (.list (ns.map .int))) (h : Q (.bool (ns.any (· == i))) σ) : Cmp prog w h₀ n σ .In (.int i) (.obj a) Q := fun A s x y ok rl r₁ r₂ => by
  cases r₁; cases r₂
  obtain ⟨items, i1, i2⟩ := rl.at' _ _ ha
  exact in_list_ints (vs := items.toList) (ns := ns) (by simpa using i1.isList) (ints_of i2) ⟨_, σ, .refl rl fun _ d => d, .bool _, h⟩
theorem Cmp_notin_int {a : Addr} {ns : List Int} {i : Int} {Q : AV → AS → Prop} (ha : σ a = some (.list (ns.map .int))) (h : Q (.bool (!ns.any (· == i))) σ) : Cmp prog w h₀ n σ .NotIn (.int i) (.obj a) Q := fun A s x y ok rl r₁ r₂ => by
  cases r₁; cases r₂
  obtain ⟨items, i1, i2⟩ := rl.at' _ _ ha
  exact notin_list_ints (vs := items.toList) (ns := ns) (by simpa using i1.isList) (ints_of i2) ⟨_, σ, .refl rl fun _ d => d, .bool _, h⟩
noncomputable def isBool (k : Bool) : Value → Bool
  | .bool i => i == k
  | _ => false
theorem bools_at {h : Heap} {A : Around} {s : Shared} (k : Bool) : ∀ {bs : List Bool} {items : List Value}, VRs h (bs.map .bool) items → (∀ y, y ∈ items → SeqAt.EqAt A s y (.bool k) (isBool k y)) ∧ items.any (isBool k) = bs.any (· == k)
  | [], _, .nil => ⟨fun _ hy => (nomatch hy), rfl⟩
  | b :: bs, _, .cons hv hs => by
    cases hv
    obtain ⟨h1, h2⟩ := bools_at (A := A) (s := s) k hs
    refine ⟨fun y hy => ?_, by simp only [List.any_cons, h2, isBool]⟩
    rcases List.mem_cons.mp hy with rfl | hy
    · exact SeqAt.EqAt.bool_bool b k
    · exact h1 y hy
theorem Cmp_in_bool {a : Addr} {bs : List Bool} {b : Bool} {Q : AV → AS → Prop} (ha : σ a = some (.list (bs.map .bool))) (h : Q (.bool (bs.any (· == b))) σ) : Cmp prog w h₀ n σ .In (.bool b) (.obj a) Q := fun A s x y ok rl r₁ r₂ => by
  cases r₁; cases r₂
  obtain ⟨items, i1, i2⟩ := rl.at' _ _ ha
  obtain ⟨g1, g2⟩ := bools_at (A := A.in1) (s := s) b i2
  refine SeqAt.in_listAt (isBool b) i1.isList (fun y hy => g1 y (by simpa using hy)) ⟨_, σ, .refl rl fun _ d => d, .bool _, ?_⟩
  rw [← Array.any_toList, g2]; exact h
theorem Cmp_notin_bool {a : Addr} {bs : List Bool} {b : Bool} {Q : AV → AS → Prop} (ha : σ a = some (.list (bs.map .bool))) (h : Q (.bool (!bs.any (· == b))) σ) : Cmp prog w h₀ n σ .NotIn (.bool b) (.obj a) Q := fun A s x y ok rl r₁ r₂ => by
  cases r₁; cases r₂
  obtain ⟨items, i1, i2⟩ := rl.at' _ _ ha
  obtain ⟨g1, g2⟩ := bools_at (A := A.in1) (s := s) b i2
  refine SeqAt.notIn_listAt (isBool b) i1.isList (fun y hy => g1 y (by simpa using hy)) ⟨_, σ, .refl rl fun _ d => d, .bool _, ?_⟩
  rw [← Array.any_toList, g2]; exact h

/-! equality of data -/
theorem Ok.room64 {A : Around} (ok : Ok n A) (hn : 6 ≤ n) : A.units + 64 < cLine := by have := ok.units; omega
theorem Cmp_nelist {a b : Addr} {ns ms : List Int} {Q : AV → AS → Prop} (hn : 6 ≤ n) (ha : σ a = some (.list (ns.map .int))) (hb : σ b = some (.list (ms.map .int))) (h : Q (.bool (!decide (ns = ms))) σ) : Cmp prog w h₀ n σ .NotEq (.obj a) (.obj b) Q := fun A s x y ok rl r₁ r₂ => by
  cases r₁; cases r₂
  obtain ⟨items, i1, i2⟩ := rl.at' _ _ ha
  obtain ⟨items', j1, j2⟩ := rl.at' _ _ hb
  exact ke_ne_ints (xs := items.toList) (ys := items'.toList) (by simpa using i1.isList) (by simpa using j1.isList) (ints_of i2) (ints_of j2) (ok.room64 hn) ⟨_, σ, .refl rl fun _ d => d, .bool _, h⟩

theorem reads_ints {h : Heap} : ∀ {ns : List Int} {items : List Value}, VRs h (ns.map .int) items → ReadsAll h items (ns.map PyData.int) []
  | [], _, .nil => .nil
  | n :: ns, _, .cons hv hs => by
    cases hv
    exact .cons (as := []) (bs := []) (.int _ _) (reads_ints hs)
theorem reads_tups {h : Heap} : ∀ {cs : List (List Int)} {items : List Value}, VRs h (cs.map fun c => .tup (c.map .int)) items → ReadsAll h items (cs.map fun c => PyData.tuple (c.map PyData.int)) []
  | [], _, .nil => .nil
  | c :: cs, _, .cons hv hs => by
    cases hv with
    | tup ht hs' =>
    obtain ⟨o, h1, h2, k, h3⟩ := ht
    exact .cons (as := []) (bs := []) (.tuple h1 h2 h3 (reads_ints hs')) (reads_tups hs)
theorem lay_ints : ∀ ns : List Int, PyData.canLayAll0 (ns.map PyData.int) = true
  | [] => rfl
  | n :: ns => by show (true && _) = true; rw [lay_ints ns]; rfl
theorem lay_tups : ∀ cs : List (List Int), PyData.canLayAll0 (cs.map fun c => PyData.tuple (c.map PyData.int)) = true
  | [] => rfl
  | c :: cs => by
    show (PyData.canLayAll0 (c.map PyData.int) && _) = true
    rw [lay_ints, lay_tups cs]; rfl
theorem depth_ints : ∀ ns : List Int, PyData.depthAll (ns.map PyData.int) ≤ 1
  | [] => by simp [PyData.depthAll]
  | n :: ns => by
    have := depth_ints ns
    simp only [List.map_cons, PyData.depthAll, PyData.depth]
    omega
theorem depth_tups : ∀ cs : List (List Int), PyData.depthAll (cs.map fun c => PyData.tuple (c.map PyData.int)) ≤ 3
  | [] => by simp [PyData.depthAll]
  | c :: cs => by
    have := depth_tups cs
    have := depth_ints c
    simp only [List.map_cons, PyData.depthAll, PyData.depth]
    omega
theorem Cmp_eqdata {a b : Addr} {i : Int} {cs : List (List Int)} {Q : AV → AS → Prop} (hn : 6 ≤ n) (ha : σ a = some (.list (cs.map fun c => .tup (c.map .int)))) (hb : σ b = some (.list (cs.map fun c => .tup (c.map .int)))) (h : Q (.bool true) σ) :
    Cmp prog w h₀ n σ .Eq (.tup [.int i, .obj a]) (.tup [.int i, .obj b]) Q := fun A s x y ok rl r₁ r₂ => by
  have rd : ∀ (a : Addr) (x : Value), σ a = some (.list (cs.map fun c => .tup (c.map .int))) → VR s.heap (.tup [.int i, .obj a]) x → ∃ as, Reads s.heap x (.tuple [.int i, .list (cs.map fun c => PyData.tuple (c.map PyData.int))]) as := fun a x ha r => by
    cases r with
    | tup ht hs =>
    obtain ⟨o, h1, h2, k, h3⟩ := ht
    rcases hs with _ | ⟨v1, hs⟩
    rcases hs with _ | ⟨v2, hs⟩
    cases hs
    cases v1; cases v2
    obtain ⟨items, ⟨c, i1⟩, i2⟩ := rl.at' _ _ ha
    exact ⟨_, .tuple h1 h2 h3 (.cons (.int _ _) (.cons (.list i1 rfl rfl (reads_tups i2)) .nil))⟩
  obtain ⟨as, r1⟩ := rd a x ha r₁
  obtain ⟨bs, r2⟩ := rd b y hb r₂
  have hl : PyData.canLay0 (.tuple [.int i, .list (cs.map fun c => PyData.tuple (c.map PyData.int))]) = true := by
    show (true && (PyData.canLayAll0 _ && true)) = true
    rw [lay_tups]; rfl
  have hs : SeqAt.shaped (.tuple [.int i, .list (cs.map fun c => PyData.tuple (c.map PyData.int))]) = true := by
    unfold SeqAt.shaped
    rw [hl, Bool.true_and]
    have := depth_tups cs
    refine decide_eq_true ?_
    simp only [PyData.depth, PyData.depthAll]
    omega
  refine eq_dataH r1 r2 hs hs (ok.room64 hn) ?_
  rw [SeqAt.eqv_refl _ hl]
  exact ⟨_, σ, .refl rl fun _ d => d, .bool _, h⟩
end
-- Fw16
section
variable {prog : Program} {w : World} {h₀ : Heap} {n : Nat} {env : Env} {ρ : Rho} {σ : AS} {K : Frag}

theorem turn_two0 (elt t₁ i₁ t₂ i₂ : Expr) (scope : Scope) (pos : Pos) (it acc : Value) (env : Env) :
    compTurn (.ListComp elt [⟨t₁, i₁, [], 0⟩, ⟨t₂, i₂, [], 0⟩] scope pos) 0 it acc env = (standAt i₁.pos >>= fun _ => pyNext it >>= fun r => match r with
      | none => pure (.done .next)
      | some v => letOwnedTupleGo t₁ it v >>= fun _ => assign t₁ env v >>= fun _ =>
        eval i₂ env >>= fun x => standAt i₂.pos >>= fun _ => foldedSetIterable i₂ env x >>= fun x => holding [x] (pyIter x) >>= fun it' =>
          runOwn (.compStart (.ListComp elt [⟨t₁, i₁, [], 0⟩, ⟨t₂, i₂, [], 0⟩] scope pos) 1 it' acc env) env >>= fun _ =>
          again (.compLoop (.ListComp elt [⟨t₁, i₁, [], 0⟩, ⟨t₂, i₂, [], 0⟩] scope pos) 0 it acc env)) := by rfl
theorem turn_two1 (elt t₁ i₁ t₂ i₂ : Expr) (scope : Scope) (pos : Pos) (it acc : Value) (env : Env) :
    compTurn (.ListComp elt [⟨t₁, i₁, [], 0⟩, ⟨t₂, i₂, [], 0⟩] scope pos) 1 it acc env = (standAt i₂.pos >>= fun _ => pyNext it >>= fun r => match r with
      | none => pure (.done .next)
      | some v => letOwnedTupleGo t₂ it v >>= fun _ => assign t₂ env v >>= fun _ =>
        (eval elt env >>= fun x => call (.builtin "list.append") [acc, x] >>= fun _ => pure ()) >>= fun _ =>
          again (.compLoop (.ListComp elt [⟨t₁, i₁, [], 0⟩, ⟨t₂, i₂, [], 0⟩] scope pos) 1 it acc env)) := by rfl

theorem start_two1 {A : Around} {R : Result → Shared → Prop} {s : Shared} {elt t₁ i₁ t₂ i₂ : Expr} {scope : Scope} {pos : Pos} {it acc : Value} {env : Env}
    (h0 : codeAny (model prog w) A (.compLoop (.ListComp elt [⟨t₁, i₁, [], 0⟩, ⟨t₂, i₂, [], 0⟩] scope pos) 1 it acc env) R s)
    (h : wpAny (model prog w) A (pyIter it) (fun it' s' => codeAny (model prog w) A (.compLoop (.ListComp elt [⟨t₁, i₁, [], 0⟩, ⟨t₂, i₂, [], 0⟩] scope pos) 1 it' acc env) R s')
      (notedBy (model prog w) A env fun x s' => R (.error x) s') s) :
    codeAny (model prog w) A (.compStart (.ListComp elt [⟨t₁, i₁, [], 0⟩, ⟨t₂, i₂, [], 0⟩] scope pos) 1 it acc env) R s := by
  refine codeAny_of_tree ?_
  show wpAny _ A ((compStart (.ListComp elt [⟨t₁, i₁, [], 0⟩, ⟨t₂, i₂, [], 0⟩] scope pos) 1 it acc env).onRaise (fun x => do noteFrame x env; standAt theWindowsPlace)) _ _ s
  refine wpAny_notedAt ?_
  unfold compStart
  show wpAny _ A (ask >>= _) _ _ s
  refine wpAny_bind (wpAny_askSetting (wpAny_ite ?_))
  split
  · first
      | exact wpAny_bind (wpAny_pure (wpAny_pure (And.intro rfl h0)))
      | exact wpAny_pure (And.intro rfl h0)
  · first
      | exact wpAny_bind (wpAny_rule (wpAny_bind (wpAny_standAt (wpAny_bind (wpAny_mono h (fun it' s' h' => wpAny_pure (And.intro rfl h')) fun _ _ x => x)))))
      | (refine wpAny_bind (wpAny_rule ?_); show wpAny _ A (standAt i₂.pos >>= _) _ _ s; exact wpAny_bind (wpAny_standAt (wpAny_bind (wpAny_mono h (fun it' s' h' => wpAny_pure (And.intro rfl h')) fun _ _ x => x))))

theorem loop_two1 {A : Around} {R : Result → Shared → Prop} {s : Shared} {elt t₁ i₁ t₂ i₂ : Expr} {scope : Scope} {pos : Pos} {it acc : Value} {env : Env} (I : Nat → Shared → Prop)
    (turn : ∀ n s, I n s → wpAny (model prog w) A (pyNext it) (fun r s₁ => match r with
      | none => R (.ok .next) s₁
      | some v => wpAny (model prog w) A (assign t₂ env v) (fun _ s₂ => wpAny (model prog w) A (eval elt env) (fun x s₃ =>
          wpAny (model prog w) A (call (.builtin "list.append") [acc, x]) (fun _ s₄ => ∃ m, m < n ∧ I m s₄) NoE s₃) NoE s₂) NoE s₁) NoE s)
    (n : Nat) (h : I n s) (ht : ∀ v, letOwnedTupleGo t₂ it v = pure () := by intro _; rfl) :
    codeAny (model prog w) A (.compLoop (.ListComp elt [⟨t₁, i₁, [], 0⟩, ⟨t₂, i₂, [], 0⟩] scope pos) 1 it acc env) R s := by
  refine codeAny_loop rfl I (fun n s hI => ?_) n h
  show wpAny _ A ((compTurn (.ListComp elt [⟨t₁, i₁, [], 0⟩, ⟨t₂, i₂, [], 0⟩] scope pos) 1 it acc env).onRaise (fun x => do noteFrame x env; theTreesLotGoes x)) _ _ s
  refine wpAny_noted ?_
  rw [turn_two1]
  refine noE (wpAny_bind (wpAny_standAt (wpAny_bind (wpAny_mono (turn n s hI) (fun r s₁ h₁ => ?_) fun _ _ h' => h'))))
  cases r with
  | none => exact wpAny_pure h₁
  | some v =>
    refine wpAny_bind (wpAny_of_eq (ht v) ?_)
    exact wpAny_bind (wpAny_mono h₁ (fun _ s₂ h₂ => wpAny_bind (wpAny_bind (wpAny_mono h₂ (fun x s₃ h₃ => wpAny_bind (wpAny_mono h₃
      (fun _ s₄ h₄ => wpAny_pure (wpAny_pure ⟨rfl, h₄⟩)) fun _ _ h' => h')) fun _ _ h' => h'))) fun _ _ h' => h')

theorem loop_two0 {A : Around} {R : Result → Shared → Prop} {s : Shared} {elt t₁ i₁ t₂ i₂ : Expr} {scope : Scope} {pos : Pos} {it acc : Value} {env : Env} (I : Nat → Shared → Prop)
    (turn : ∀ n s, I n s → wpAny (model prog w) A (pyNext it) (fun r s₁ => match r with
      | none => R (.ok .next) s₁
      | some v => wpAny (model prog w) A (assign t₁ env v) (fun _ s₂ => wpAny (model prog w) A (eval i₂ env) (fun x s₃ =>
          wpAny (model prog w) A (pyIter x) (fun it' s₄ => codeAny (model prog w) A (.compStart (.ListComp elt [⟨t₁, i₁, [], 0⟩, ⟨t₂, i₂, [], 0⟩] scope pos) 1 it' acc env) (fun r s₅ => match r with | .ok _ => ∃ m, m < n ∧ I m s₅ | .error _ => False) s₄) NoE s₃) NoE s₂) NoE s₁) NoE s)
    (n : Nat) (h : I n s) (ht : ∀ v, letOwnedTupleGo t₁ it v = pure () := by intro _; rfl) (hs : ∀ x, foldedSetIterable i₂ env x = pure x := by intro _; rfl) :
    codeAny (model prog w) A (.compLoop (.ListComp elt [⟨t₁, i₁, [], 0⟩, ⟨t₂, i₂, [], 0⟩] scope pos) 0 it acc env) R s := by
  refine codeAny_loop rfl I (fun n s hI => ?_) n h
  show wpAny _ A ((compTurn (.ListComp elt [⟨t₁, i₁, [], 0⟩, ⟨t₂, i₂, [], 0⟩] scope pos) 0 it acc env).onRaise (fun x => do noteFrame x env; theTreesLotGoes x)) _ _ s
  refine wpAny_noted ?_
  rw [turn_two0]
  refine noE (wpAny_bind (wpAny_standAt (wpAny_bind (wpAny_mono (turn n s hI) (fun r s₁ h₁ => ?_) fun _ _ h' => h'))))
  cases r with
  | none => exact wpAny_pure h₁
  | some v =>
    refine wpAny_bind (wpAny_of_eq (ht v) ?_)
    refine wpAny_bind (wpAny_mono h₁ (fun _ s₂ h₂ => wpAny_bind (wpAny_mono h₂ (fun x s₃ h₃ => ?_) fun _ _ h' => h')) fun _ _ h' => h')
    refine wpAny_bind (wpAny_standAt (wpAny_bind (wpAny_of_eq (hs x) (wpAny_bind (wpAny_holding (wpAny_mono h₃ (fun it' s₄ h₄ => ?_) fun _ _ h' => h'))))))
    refine wpAny_bind (wpAny_runOwn (codeAny_mono h₄ fun r s₅ h₅ => ?_))
    cases r with
    | ok f => exact wpAny_pure ⟨rfl, h₅⟩
    | error e => exact h₅.elim

noncomputable def But2 (x y : Str) (ρ ρ' : Rho) : Prop := ∀ z, z ≠ x → z ≠ y → ρ' z = ρ z

theorem comp_inner {A : Around} {elt i₁ i₂ : Expr} {x y : Str} {px py pos : Pos} {scope : Scope} {s s₄ : Shared} {I I₁ D : Addr} {us : List AV} {G : AS → Prop} {St : Nat → Heap → Prop} {StO : Heap → Prop} {cenv : Env} {ρ₀ : Rho} {v : AV} {R : Result → Shared → Prop} {σ₁ : AS} {acc₀ : List AV} {items₀ : Array Value}
    (Inv : Nat → List AV → AS → Prop) (ok : Ok n A) (W : AIt prog w h₀ I us G St)
    (p : Post prog w h₀ (dom σ) s σ₁ s₄) (F : ∃ ρ', FR h₀ cenv ρ' σ₁ s₄.heap ∧ But2 x y ρ₀ ρ' ∧ ρ' x = some v) (hxy : x ≠ y) (hsI : s.heap.get? I = none) (hsD : s.heap.get? D = none) (hsC : s.heap.get? cenv.locals = none) (hID : I ≠ D) (hI₀ : h₀.get? I = none) (hD₀ : h₀.get? D = none)
    (hfI : ¬ inFrame cenv I) (hfD : ¬ inFrame cenv D) (hf1 : ¬ inFrame cenv I₁) (h1D : I₁ ≠ D) (h1I : I₁ ≠ I) (hD : s₄.heap.PlainList D items₀) (hacc₀ : VRs s₄.heap acc₀ items₀.toList) (hσD : σ₁ D = none) (hσI : σ₁ I = none) (hσ1 : σ₁ I₁ = none) (st : St 0 s₄.heap) (hx : cenv.kindOf y = some .local)
    (sto : StO s₄.heap) (hO : ∀ h h', StO h → (∀ o, h.get? I₁ = some o → h'.get? I₁ = some o) → TupsKeep h h' → StO h') (hOg : ∀ h, StO h → ∃ o, h.get? I₁ = some o)
    (hinv : Inv 0 acc₀ σ₁) (hG : ∀ i acc σ', i ≤ us.length → Inv i acc σ' → G σ')
    (hturn : ∀ j u acc σ' ρ', us[j]? = some u → Inv j acc σ' → But2 x y ρ₀ ρ' → ρ' x = some v → ρ' y = some u → acc.length ≤ sizeLine ∧ Ev prog w h₀ n cenv ρ' σ' elt fun r σ₃ => Inv (j + 1) (acc ++ [r]) σ₃)
    (hR : ∀ s' σ' acc items ρ', Post prog w h₀ (dom σ) s σ' s' → FR h₀ cenv ρ' σ' s'.heap → But2 x y ρ₀ ρ' → s'.heap.PlainList D items → VRs s'.heap acc items.toList → σ' D = none → σ' I₁ = none → StO s'.heap → Inv us.length acc σ' → R (.ok .next) s') :
    codeAny (model prog w) A (.compLoop (.ListComp elt [⟨.Name x px, i₁, [], 0⟩, ⟨.Name y py, i₂, [], 0⟩] scope pos) 1 (.ref I) (.ref D) cenv) R s₄ := by
  obtain ⟨ρ₁, F, hρ₁, hv₁⟩ := F
  refine loop_two1 (fun k s' => ∃ i acc σ' ρ' items, Post prog w h₀ (dom σ) s σ' s' ∧ FR h₀ cenv ρ' σ' s'.heap ∧ But2 x y ρ₀ ρ' ∧ ρ' x = some v ∧ s'.heap.PlainList D items ∧ VRs s'.heap acc items.toList ∧ σ' D = none ∧ σ' I = none ∧ σ' I₁ = none ∧ St i s'.heap ∧ StO s'.heap ∧ Inv i acc σ' ∧ i ≤ us.length ∧ k = us.length + 1 - i) ?_ (us.length + 1)
    ⟨0, acc₀, σ₁, ρ₁, items₀, p, F, hρ₁, hv₁, hD, hacc₀, hσD, hσI, hσ1, st, sto, hinv, Nat.zero_le _, rfl⟩
  rintro k s' ⟨i, acc, σ', ρ', items, p', F', hρ, hvx, hD', hacc, hD'', hI'', h1'', st', sto', hi, hle, rfl⟩
  by_cases hlt : i < us.length
  · obtain ⟨u, hu⟩ : ∃ u, us[i]? = some u := ⟨_, List.getElem?_eq_getElem hlt⟩
    refine W.item i A s' σ' _ _ u ok.handled p'.rel (hG _ _ _ hle hi) st' hu fun a h₁ tk₁ ra st₁ he => ?_
    have tk := W.tk i _ _ st' he
    have p₁ := p'.ext (tk := tk₁) hsI hI'' hI₀ tk he
    have F₁ := F'.ext hfI tk he
    have D₁ : h₁.PlainList D items := hD'.extBut he (Ne.symm hID)
    have a₁ := hacc.mono tk
    have o₁ : StO h₁ := hO _ _ sto' (fun o e => he I₁ o h1I e) tk
    refine noE (wpAny_assign_Name (store_local' (ρ := ρ') p₁.rel F₁ ra hx fun s₂ p₂ F₂ => ?_))
    have hρ₂ : But2 x y ρ₀ (ρ'.set y u) := fun z zx zy => by unfold Rho.set; rw [if_neg zy]; exact hρ z zx zy
    have hv₂ : (ρ'.set y u) x = some v := by unfold Rho.set; rw [if_neg hxy]; exact hvx
    have hu₂ : (ρ'.set y u) y = some u := by unfold Rho.set; rw [if_pos rfl]
    have pp₂ : Post prog w h₀ (dom σ) s σ' s₂ := p₁.trans₀ p₂ fun b z => z.elim (fun z => .inr (.inl z)) fun z => .inr (.inr (by rw [z]; exact hsC))
    have nC : ∀ b, b ≠ cenv.locals → σ' b = none → ¬ (dom σ' b ∨ b = cenv.locals) := fun b q e z => z.elim (fun d => not_dom.mpr e d) q
    have nD : D ≠ cenv.locals := fun e => hfD (.inl e)
    have nI : I ≠ cenv.locals := fun e => hfI (.inl e)
    have n1 : I₁ ≠ cenv.locals := fun e => hf1 (.inl e)
    have D₂ : s₂.heap.PlainList D items := D₁.at fun o e => p₂.keep D o (nC D nD hD'') e
    have st₂ := W.frame _ _ _ st₁ (fun o e => p₂.keep I o (nC I nI hI'') e) p₂.tups
    have o₂ := hO _ _ o₁ (fun o e => p₂.keep I₁ o (nC I₁ n1 h1'') e) p₂.tups
    obtain ⟨hz, hev⟩ := hturn i u acc σ' _ hu hi hρ₂ hv₂ hu₂
    refine wpAny_mono (hev A s₂ ok p₂.rel F₂) (fun r s₃ ⟨rv, σ₃, p₃, r₃, h₃⟩ => ?_) fun _ _ z => z
    obtain ⟨kD, gD⟩ := id D₂
    obtain ⟨oI, gI⟩ := W.got _ _ st₂
    obtain ⟨o1, g1⟩ := hOg _ o₂
    have D₃ : s₃.heap.PlainList D items := D₂.at fun o e => p₃.keep D o (not_dom.mpr hD'') e
    have fr : ∀ b ob, σ' b = none → s₂.heap.get? b = some ob → σ₃ b = none := fun b ob e g => by
      cases e' : σ₃ b with
      | none => rfl
      | some o => rw [p₃.fresh b o e' (not_dom.mpr e)] at g; cases g
    have v₃ := p₃.vrs (p₂.vrs a₁)
    have hsz : acc.length = items.size := by simpa using v₃.length
    refine wpAny_list_append_plain D₃ (fun h₅ D₅ e₅ => ?_) (by omega)
    have t₅ := list_tk D₃ e₅.extBut
    have st₃ := W.frame _ _ _ st₂ (fun o e => p₃.keep I o (not_dom.mpr hI'') e) p₃.tups
    have o₃ := hO _ _ o₂ (fun o e => p₃.keep I₁ o (not_dom.mpr h1'') e) p₃.tups
    refine ⟨us.length + 1 - (i + 1), by omega, i + 1, acc ++ [rv], σ₃, _, items.push r, (pp₂.trans' p₃).ext (tk := s₃.toks) hsD (fr D _ hD'' gD) hD₀ t₅ e₅.extBut, (F₂.post p₃).ext hfD t₅ e₅.extBut, hρ₂, hv₂, D₅, ?_, fr D _ hD'' gD, fr I _ hI'' gI, fr I₁ _ h1'' g1, W.frame _ _ _ st₃ (fun o e => e₅.extBut I o hID e) t₅, hO _ _ o₃ (fun o e => e₅.extBut I₁ o h1D e) t₅, h₃, hlt, rfl⟩
    rw [Array.toList_push]
    exact (v₃.mono t₅).snoc (r₃.mono t₅)
  · have hin : i = us.length := by omega
    subst hin
    refine W.done _ A s' σ' _ _ ok.handled p'.rel (hG _ _ _ hle hi) st' (Nat.le_refl _) fun h₁ tk₁ he => ?_
    have tk := W.tk _ _ _ st' he
    exact hR _ σ' acc items ρ' (p'.ext (tk := tk₁) hsI hI'' hI₀ tk he) (F'.ext hfI tk he) hρ (hD'.extBut he (Ne.symm hID)) (hacc.mono tk) hD'' h1'' (hO _ _ sto' (fun o e => he I₁ o h1I e) tk) hi

theorem comp_outer {A : Around} {elt i₁ i₂ : Expr} {x y : Str} {px py pos : Pos} {scope : Scope} {s s₄ : Shared} {I D : Addr} {vs : List AV} {G : AS → Prop} {St : Nat → Heap → Prop} {cenv : Env} {ρ₀ : Rho} {R : Result → Shared → Prop} {σ₁ : AS}
    (Inv : Nat → List AV → AS → Prop) (ok : Ok n A) (W : AIt prog w h₀ I vs G St) (rl₀ : Rel prog w h₀ σ s.heap)
    (p : Post prog w h₀ (dom σ) s σ₁ s₄) (F : FR h₀ cenv ρ₀ σ₁ s₄.heap) (hxy : x ≠ y) (hsI : s.heap.get? I = none) (hsD : s.heap.get? D = none) (hsC : s.heap.get? cenv.locals = none) (hID : I ≠ D) (hI₀ : h₀.get? I = none) (hD₀ : h₀.get? D = none)
    (hfI : ¬ inFrame cenv I) (hfD : ¬ inFrame cenv D) (hD : s₄.heap.PlainList D #[]) (hσD : σ₁ D = none) (hσI : σ₁ I = none) (st : St 0 s₄.heap) (hx : cenv.kindOf x = some .local) (hy : cenv.kindOf y = some .local)
    (hinv : Inv 0 [] σ₁) (hG : ∀ i acc σ', i ≤ vs.length → Inv i acc σ' → G σ')
    (hturn : ∀ i v acc σ' ρ', vs[i]? = some v → Inv i acc σ' → But2 x y ρ₀ ρ' → ρ' x = some v → EvIt prog w h₀ n cenv ρ' σ' i₂ fun us G₂ σ₂ => ∃ Inv2 : Nat → List AV → AS → Prop, Inv2 0 acc σ₂ ∧ (∀ j acc σ', j ≤ us.length → Inv2 j acc σ' → G₂ σ') ∧
      (∀ j u acc σ' ρ', us[j]? = some u → Inv2 j acc σ' → But2 x y ρ₀ ρ' → ρ' x = some v → ρ' y = some u → acc.length ≤ sizeLine ∧ Ev prog w h₀ n cenv ρ' σ' elt fun r σ₃ => Inv2 (j + 1) (acc ++ [r]) σ₃) ∧ (∀ acc σ', Inv2 us.length acc σ' → Inv (i + 1) acc σ'))
    (hs : ∀ x, foldedSetIterable i₂ cenv x = pure x)
    (hR : ∀ s' σ' acc items ρ', Post prog w h₀ (dom σ) s σ' s' → FR h₀ cenv ρ' σ' s'.heap → s'.heap.PlainList D items → VRs s'.heap acc items.toList → σ' D = none → Inv vs.length acc σ' → R (.ok .next) s') :
    codeAny (model prog w) A (.compLoop (.ListComp elt [⟨.Name x px, i₁, [], 0⟩, ⟨.Name y py, i₂, [], 0⟩] scope pos) 0 (.ref I) (.ref D) cenv) R s₄ := by
  refine loop_two0 (fun k s' => ∃ i acc σ' ρ' items, Post prog w h₀ (dom σ) s σ' s' ∧ FR h₀ cenv ρ' σ' s'.heap ∧ But2 x y ρ₀ ρ' ∧ s'.heap.PlainList D items ∧ VRs s'.heap acc items.toList ∧ σ' D = none ∧ σ' I = none ∧ St i s'.heap ∧ Inv i acc σ' ∧ i ≤ vs.length ∧ k = vs.length + 1 - i) ?_ (vs.length + 1)
    ⟨0, [], σ₁, ρ₀, #[], p, F, fun _ _ _ => rfl, hD, .nil, hσD, hσI, st, hinv, Nat.zero_le _, rfl⟩ (fun _ => rfl) hs
  rintro k s' ⟨i, acc, σ', ρ', items, p', F', hρ, hD', hacc, hD'', hI'', st', hi, hle, rfl⟩
  by_cases hlt : i < vs.length
  · obtain ⟨v, hv⟩ : ∃ v, vs[i]? = some v := ⟨_, List.getElem?_eq_getElem hlt⟩
    refine W.item i A s' σ' _ _ v ok.handled p'.rel (hG _ _ _ hle hi) st' hv fun a h₁ tk₁ ra st₁ he => ?_
    have tk := W.tk i _ _ st' he
    have p₁ := p'.ext (tk := tk₁) hsI hI'' hI₀ tk he
    have F₁ := F'.ext hfI tk he
    have D₁ : h₁.PlainList D items := hD'.extBut he (Ne.symm hID)
    have a₁ := hacc.mono tk
    refine wpAny_assign_Name (store_local' (ρ := ρ') p₁.rel F₁ ra hx fun s₂ p₂ F₂ => ?_)
    have hρ₂ : But2 x y ρ₀ (ρ'.set x v) := fun z zx zy => by unfold Rho.set; rw [if_neg zx]; exact hρ z zx zy
    have hv₂ : (ρ'.set x v) x = some v := by unfold Rho.set; rw [if_pos rfl]
    have pp₂ : Post prog w h₀ (dom σ) s σ' s₂ := p₁.trans₀ p₂ fun b z => z.elim (fun z => .inr (.inl z)) fun z => .inr (.inr (by rw [z]; exact hsC))
    have nC : ∀ b, b ≠ cenv.locals → σ' b = none → ¬ (dom σ' b ∨ b = cenv.locals) := fun b q e z => z.elim (fun d => not_dom.mpr e d) q
    have nD : D ≠ cenv.locals := fun e => hfD (.inl e)
    have nI : I ≠ cenv.locals := fun e => hfI (.inl e)
    have D₂ : s₂.heap.PlainList D items := D₁.at fun o e => p₂.keep D o (nC D nD hD'') e
    have st₂ := W.frame _ _ _ st₁ (fun o e => p₂.keep I o (nC I nI hI'') e) p₂.tups
    refine wpAny_mono (hturn i v acc σ' _ hv hi hρ₂ hv₂ A s₂ ok p₂.rel F₂) (fun u s₃ h₃ => wpAny_mono h₃ (fun it s₅ h₅ => ?_) fun _ _ z => z) fun _ _ z => z
    obtain ⟨I₂, us, G₂, σ₂, St₂, rfl, p₃, hs₂, hσ₂, W₂, st₃, Inv2, hinv2, hG2, hturn2, hend⟩ := h₅
    obtain ⟨kD, gD⟩ := id D₂
    obtain ⟨oI, gI⟩ := W.got _ _ st₂
    have fr : ∀ b ob, σ' b = none → s₂.heap.get? b = some ob → σ₂ b = none := fun b ob e g => by
      cases e' : σ₂ b with
      | none => rfl
      | some o => rw [p₃.fresh b o e' (not_dom.mpr e)] at g; cases g
    have pp₃ := pp₂.trans' p₃
    have F₃ := F₂.post p₃
    have D₃ : s₅.heap.PlainList D items := D₂.at fun o e => p₃.keep D o (not_dom.mpr hD'') e
    have st₅ := W.frame _ _ _ st₂ (fun o e => p₃.keep I o (not_dom.mpr hI'') e) p₃.tups
    have n2D : I₂ ≠ D := fun e => by rw [e, gD] at hs₂; cases hs₂
    have n2I : I ≠ I₂ := fun e => by rw [← e, gI] at hs₂; cases hs₂
    have hsI₂ : s.heap.get? I₂ = none := pp₂.new hs₂
    have h0I₂ : h₀.get? I₂ = none := by
      cases e : h₀.get? I₂ with
      | none => rfl
      | some o => rw [rl₀.base _ o e] at hsI₂; cases hsI₂
    have hfI₂ : ¬ inFrame cenv I₂ := fun q => by obtain ⟨o, g⟩ := F₂.got _ q; rw [hs₂] at g; cases g
    have loop : codeAny (model prog w) A (.compLoop (.ListComp elt [⟨.Name x px, i₁, [], 0⟩, ⟨.Name y py, i₂, [], 0⟩] scope pos) 1 (.ref I₂) (.ref D) cenv) (fun r s₆ => match r with
        | .ok _ => ∃ m, m < vs.length + 1 - i ∧ ∃ i acc σ' ρ' items, Post prog w h₀ (dom σ) s σ' s₆ ∧ FR h₀ cenv ρ' σ' s₆.heap ∧ But2 x y ρ₀ ρ' ∧ s₆.heap.PlainList D items ∧ VRs s₆.heap acc items.toList ∧ σ' D = none ∧ σ' I = none ∧ St i s₆.heap ∧ Inv i acc σ' ∧ i ≤ vs.length ∧ m = vs.length + 1 - i
        | .error _ => False) s₅ := by
      refine comp_inner (I₁ := I) (StO := St (i + 1)) (G := G₂) Inv2 ok W₂ pp₃ ⟨_, F₃, hρ₂, hv₂⟩ hxy hsI₂ hsD hsC n2D h0I₂ hD₀ hfI₂ hfD hfI hID n2I D₃ (p₃.vrs (p₂.vrs a₁)) (fr D _ hD'' gD) hσ₂ (fr I _ hI'' gI) st₃ hy st₅ (fun h h' q k t => W.frame _ _ _ q k t) (fun h q => W.got _ _ q) hinv2 hG2 hturn2 ?_
      intro s₆ σ₆ acc₆ items₆ ρ₆ p₆ F₆ hρ₆ D₆ v₆ d₆ i₆ sto₆ inv₆
      exact ⟨vs.length + 1 - (i + 1), by omega, i + 1, acc₆, σ₆, ρ₆, items₆, p₆, F₆, hρ₆, D₆, v₆, d₆, i₆, sto₆, hend _ _ inv₆, hlt, rfl⟩
    exact start_two1 loop (W₂.self 0 A _ _ _ st₃ loop)
  · have hin : i = vs.length := by omega
    subst hin
    refine W.done _ A s' σ' _ _ ok.handled p'.rel (hG _ _ _ hle hi) st' (Nat.le_refl _) fun h₁ tk₁ he => ?_
    have tk := W.tk _ _ _ st' he
    exact hR _ σ' acc items ρ' (p'.ext (tk := tk₁) hsI hI'' hI₀ tk he) (F'.ext hfI tk he) (hD'.extBut he (Ne.symm hID)) (hacc.mono tk) hD'' hi

theorem Ev_comp2 {elt i₁ i₂ : Expr} {x y : Str} {px py pos : Pos} {scope : Scope} {cl : List (Str × Addr)} {Q : AV → AS → Prop} (Inv : Nat → List AV → AS → Prop)
    (h : EvIt prog w h₀ n env ρ σ i₁ fun vs G σ₁ => Inv 0 [] σ₁ ∧ (∀ i acc σ', i ≤ vs.length → Inv i acc σ' → G σ') ∧
      (∀ C i v acc σ' ρ', vs[i]? = some v → Inv i acc σ' → But2 x y (inner (compEnvC scope cl C env) ρ) ρ' → ρ' x = some v → EvIt prog w h₀ n (compEnvC scope cl C env) ρ' σ' i₂ fun us G₂ σ₂ => ∃ Inv2 : Nat → List AV → AS → Prop, Inv2 0 acc σ₂ ∧ (∀ j acc σ', j ≤ us.length → Inv2 j acc σ' → G₂ σ') ∧
        (∀ j u acc σ' ρ', us[j]? = some u → Inv2 j acc σ' → But2 x y (inner (compEnvC scope cl C env) ρ) ρ' → ρ' x = some v → ρ' y = some u → acc.length ≤ sizeLine ∧ Ev prog w h₀ n (compEnvC scope cl C env) ρ' σ' elt fun r σ₃ => Inv2 (j + 1) (acc ++ [r]) σ₃) ∧ (∀ acc σ', Inv2 us.length acc σ' → Inv (i + 1) acc σ')) ∧
      (∀ D acc σ', Inv vs.length acc σ' → σ' D = none → h₀.get? D = none → Q (.obj D) (σ'.set D (.list acc))))
    (hxy : (x == y) = false := by rfl) (hcl : closF env scope.names [] = some cl := by rfl) (hsc : scopeOk scope x = true := by rfl) (hsy : scopeOk scope y = true := by rfl)
    (hs : ∀ x, foldedSetIterable i₁ env x = pure x := by intro _; rfl) (hs₂ : ∀ e x, foldedSetIterable i₂ e x = pure x := by intro _ _; rfl) :
    Ev prog w h₀ n env ρ σ (.ListComp elt [⟨.Name x px, i₁, [], 0⟩, ⟨.Name y py, i₂, [], 0⟩] scope pos) Q := fun A s ok rl F => by
  rw [eval_ListComp]
  obtain ⟨hnames, hcell, hx, hkind⟩ := scopeOk_of hsc
  obtain ⟨-, -, hy, -⟩ := scopeOk_of hsy
  have hxy' : x ≠ y := fun e => by subst e; simp at hxy
  refine wpAny_comprehension_free (use := none) rfl hs (closF_eq hcl) hkind hnames (wpAny_mono (h A s ok rl F) (fun v s₁ h₁ => wpAny_mono h₁ (fun it s₂ h₂ => ?_) fun _ _ e => e) fun _ _ e => e)
  obtain ⟨I, vs, G, σ₁, St, rfl, p, hsI, hσI, W, st, hinv, hG, hturn, hR⟩ := h₂
  obtain ⟨oI, gI⟩ := W.got _ _ st
  have hIlt := Heap.lt_size gI
  refine wpAny_newObj_type (wpAny_newFunctionEnv hcell (by intro y hy; simp at hy) (fun h₁ hns₁ hsb₁ => ?_) hkind)
  dsimp only at hns₁ hsb₁ ⊢
  generalize hH2 : s₂.heap.push { cls := .type "list", dict := none, data := .seq ([] : List Value).toArray } = H2 at hns₁ hsb₁ ⊢
  have hC : H2.objs.size = s₂.heap.objs.size + 1 := by rw [← hH2, Heap.size_push]
  have newAt : ∀ a, s₂.heap.objs.size ≤ a → s₂.heap.get? a = none := fun a ha => by
    cases e : s₂.heap.get? a with
    | none => rfl
    | some o' => exact absurd (Heap.lt_size e) (Nat.not_lt.mpr ha)
  have hD2 := newAt s₂.heap.objs.size (Nat.le_refl _)
  have hC2 := newAt H2.objs.size (by rw [hC]; exact Nat.le_succ _)
  have nDC : s₂.heap.objs.size ≠ H2.objs.size := by rw [hC]; exact Nat.ne_of_lt (Nat.lt_succ_self _)
  have nlt : ∀ b, b < s₂.heap.objs.size → b ≠ H2.objs.size := fun b hb => by rw [hC]; exact Nat.ne_of_lt (Nat.lt_succ_of_lt hb)
  have old : ∀ b o, s₂.heap.get? b = some o → h₁.get? b = some o := fun b o e => hsb₁.extBut b o (nlt b (Heap.lt_size e)) (Heap.get?_push_of_some _ (hH2 ▸ Heap.get?_push_of_some _ e))
  have hacc : h₁.PlainList s₂.heap.objs.size #[] := ⟨_, hsb₁.extBut _ _ nDC (Heap.get?_push_of_some _ (hH2 ▸ Heap.get?_push_size _ rfl))⟩
  have b0 : ∀ b, s.heap.get? b = none → h₀.get? b = none := fun b hb => by
    cases e : h₀.get? b with
    | none => rfl
    | some o => rw [rl.base b o e] at hb; cases hb
  have F₂ := F.post p
  have F₁ : FR h₀ (compEnvC scope cl H2.objs.size env) (inner (compEnvC scope cl H2.objs.size env) ρ) σ₁ h₁ := comp_frame (s₃ := s₂) (tk := 0) F₂ hcl hkind p.rel old hC2 hns₁
  have p₁ : ∀ k, Post prog w h₀ (dom σ) s σ₁ { s₂ with heap := h₁, toks := k } := fun k => p.trans' (keeps_post p.rel old)
  have st₁ : St 0 h₁ := W.frame _ _ _ st (fun o e => old I o e) fun a items ⟨o, g1, r⟩ => ⟨o, old _ _ g1, r⟩
  have hfr : ∀ b, s₂.heap.objs.size = b ∨ I = b → ¬ inFrame (compEnvC scope cl H2.objs.size env) b := fun b hb q => by
    rcases q with q | ⟨y, q⟩
    · have q' : b = H2.objs.size := q
      rcases hb with hb | hb
      · exact nDC (hb.trans q')
      · exact nlt I hIlt (hb.trans q')
    · have m := closF_mem _ _ _ hcl (fun p hp => nomatch hp) (y, b) (mem_of_lookup q)
      obtain ⟨o, g⟩ := F.got b (.inr ⟨y, m.1⟩)
      rcases hb with hb | hb
      · subst hb; rw [p.new hD2] at g; cases g
      · subst hb; rw [hsI] at g; cases g
  have loop : codeAny (model prog w) A (.compLoop (.ListComp elt [⟨.Name x px, i₁, [], 0⟩, ⟨.Name y py, i₂, [], 0⟩] scope pos) 0 (.ref I) (.ref s₂.heap.objs.size) (compEnvC scope cl H2.objs.size env)) (compPost (model prog w) A NoE none (PV prog w h₀ (dom σ) s Q) (.ref s₂.heap.objs.size) H2.objs.size) { s₂ with heap := h₁, toks := s₂.toks + ([] : List (Str × Value)).length } := by
    refine comp_outer (σ := σ) Inv ok W rl (p₁ _) F₁ hxy' hsI (p.new hD2) (p.new hC2) (Nat.ne_of_lt hIlt) (b0 _ hsI) (b0 _ (p.new hD2)) (hfr _ (.inr rfl)) (hfr _ (.inl rfl)) hacc (p.rel.none_of_new hD2) hσI st₁ (lookup_relabel_local hx) (lookup_relabel_local hy) hinv hG (fun i v acc σ' ρ' => hturn _ i v acc σ' ρ') (fun x => hs₂ _ x) ?_
    intro s' σ' acc items ρ' p' F' hl hvs hD' hi
    obtain ⟨m, hm, _⟩ := F'.ns
    refine ⟨m, hm, fun h' hsb => ?_⟩
    have tk : TupsKeep s'.heap h' := tups_of' (U := fun b => b = H2.objs.size) (fun b o q e => hsb.extBut b o q e) (fun b q o e items k hd => by
      subst q
      obtain ⟨o', es, ep, h1, h2, _⟩ := hm
      have h1' : s'.heap.get? H2.objs.size = some o' := h1
      rw [h1'] at e; cases e
      rw [h2] at hd; cases hd)
    have pe := p'.ext (tk := s'.toks) (I := H2.objs.size) (p.new hC2) F'.lap F'.lnew tk hsb.extBut
    exact ⟨.obj _, _, pe.track (o := .list acc) (p.new hD2) (b0 _ (p.new hD2)) ⟨items, hl.extBut hsb.extBut nDC, hvs.mono tk⟩, .obj _, hR _ acc σ' hi hD' (b0 _ (p.new hD2))⟩
  exact codeAny_compStart_list loop (W.self 0 A _ _ _ st₁ loop)
end
-- Fw17
section
variable {prog : Program} {w : World} {h₀ : Heap} {n : Nat} {env : Env} {ρ : Rho} {σ : AS} {K : Frag}

theorem Ev_dict0 {pos : Pos} {mg mb : Str → Option Value} {Q : AV → AS → Prop} (T : Top0 h₀ mg mb) (h : ∀ a, σ a = none → h₀.get? a = none → (a == sysModules) = false → Q (.obj a) (σ.set a (.tab []))) : Ev prog w h₀ n env ρ σ (.Dict [] [] pos) Q := fun A s ok rl F => by
  have hnew := get_push_new s.heap (o := default)
  have h0 : h₀.get? s.heap.objs.size = none := by
    cases g : h₀.get? s.heap.objs.size with
    | none => rfl
    | some o => rw [rl.base _ o g] at hnew; cases hnew
  have hs : (s.heap.objs.size == sysModules) = false := by
    obtain ⟨o, es, ep, h1, _⟩ := T.g
    have := Heap.lt_size (rl.base _ _ h1)
    have e : mainGlobals = 3 := rfl
    have e' : sysModules = 1 := rfl
    rw [e] at this
    simp only [beq_eq_false_iff_ne, ne_eq]
    intro q
    exact absurd this (by rw [q]; decide)
  refine wpAny_Dict_empty ⟨.obj _, _, new_post (n := s.toks) (o := .tab []) rl hnew (fun b o e => Heap.get?_push_of_some _ e) ?_, .obj _, h _ (rl.none_of_new hnew) h0 hs⟩
  exact ⟨[], ⟨_, #[], 0, Heap.get?_push_size _ rfl, ⟨rfl, rfl, rfl⟩, rfl, rfl, fun _ h => (nomatch h), .nil⟩, trivial⟩

theorem getL_put {x y : Str} {hsh : Int} {tk : Tok} {v : Value} : ∀ {es : List DictEntry}, (getL x es).isSome = true → getL y (putL x hsh (.str x tk) v es) = if y = x then some (some v) else getL y es
  | [], _ => by
    have e : putL x hsh (.str x tk) v [] = [⟨hsh, .str x tk, v⟩] := rfl
    rw [e]
    unfold getL
    rw [List.find?_cons]
    show (match (match x == y with | true => some (⟨hsh, .str x tk, v⟩ : DictEntry) | false => [].find? _) with | some e => some (some e.val) | none => _) = _
    by_cases q : y = x
    · subst q; simp
    · have q' : (x == y) = false := by simpa using Ne.symm q
      rw [q', if_neg q]
      rfl
  | e :: r, h => by
    unfold putL
    cases hk : e.key.isStr x with
    | true =>
      simp only [if_true]
      obtain ⟨t', hkey⟩ : ∃ t', e.key = .str x t' := by
        unfold Value.isStr at hk
        split at hk
        · rename_i s' n' _ e
          exact ⟨_, by rw [e, eq_of_beq hk]⟩
        · cases hk
      unfold getL
      rw [List.find?_cons, List.find?_cons]
      by_cases q : y = x
      · subst q; simp [hk]
      · have q' : e.key.isStr y = false := by rw [hkey]; show (x == y) = false; simpa using Ne.symm q
        simp only [q', if_neg q]
        have e1 : (⟨e.hash, e.key, v⟩ : DictEntry).refKey = e.refKey := rfl
        rw [List.any_cons, List.any_cons, e1]
    | false =>
      simp only [Bool.false_eq_true, if_false]
      have hr : (getL x r).isSome = true := by
        unfold getL at h ⊢
        rw [List.find?_cons, hk] at h
        dsimp only at h ⊢
        cases hf : r.find? (fun z => z.key.isStr x) with
        | some z => rfl
        | none =>
          rw [hf] at h
          dsimp only at h ⊢
          rw [List.any_cons] at h
          cases ha : r.any (fun z => z.refKey) with
          | true => rw [ha, Bool.or_true] at h; cases h
          | false => rfl
      have ih := getL_put (y := y) (hsh := hsh) (tk := tk) (v := v) hr
      have anyp : ∀ es : List DictEntry, (putL x hsh (.str x tk) v es).any (fun z => z.refKey) = es.any (fun z => z.refKey) := by
        intro es
        induction es with
        | nil => rfl
        | cons z r ih =>
          unfold putL
          split
          · rfl
          · rw [List.any_cons, List.any_cons, ih]
      unfold getL at ih ⊢
      rw [List.find?_cons, List.find?_cons]
      cases hy : e.key.isStr y with
      | true =>
        have q : y ≠ x := fun q => by subst q; rw [hk] at hy; cases hy
        simp only [if_neg q]
      | false =>
        dsimp only
        rw [List.any_cons, List.any_cons, anyp]
        rw [anyp] at ih
        by_cases q : y = x
        · rw [if_pos q] at ih ⊢
          cases hf : (putL x hsh (.str x tk) v r).find? (fun z => z.key.isStr y) with
          | some z => rw [hf] at ih; exact ih
          | none =>
            rw [hf] at ih
            dsimp only at ih
            split at ih <;> cases ih
        · rw [if_neg q] at ih ⊢
          cases hf : (putL x hsh (.str x tk) v r).find? (fun z => z.key.isStr y) with
          | some z =>
            rw [hf] at ih
            cases hg : r.find? (fun z => z.key.isStr y) with
            | some z' => rw [hg] at ih; exact ih
            | none =>
              rw [hg] at ih
              dsimp only at ih
              split at ih <;> cases ih
          | none =>
            rw [hf] at ih
            cases hg : r.find? (fun z => z.key.isStr y) with
            | some z' =>
              rw [hg] at ih
              dsimp only at ih
              split at ih <;> cases ih
            | none => rfl
theorem putL_len {x : Str} {hsh : Int} {k v : Value} : ∀ es : List DictEntry, (putL x hsh k v es).length ≤ es.length + 1
  | [] => Nat.le_refl _
  | e :: r => by
    unfold putL
    split
    · simp
    · have := putL_len (x := x) (hsh := hsh) (k := k) (v := v) r
      simp only [List.length_cons]; omega
theorem getL_c {x : Str} {es : List DictEntry} (h : (getL x es).isSome = true) : (!es.any (·.key.isStr x) && es.any (·.refKey)) = false := by
  unfold getL at h
  cases hf : es.find? (fun z => z.key.isStr x) with
  | some z =>
    have : es.any (fun z => z.key.isStr x) = true := List.any_eq_true.mpr ⟨z, List.mem_of_find?_eq_some hf, List.find?_some (p := fun z : DictEntry => z.key.isStr x) hf⟩
    rw [this]; rfl
  | none =>
    rw [hf] at h
    dsimp only at h
    cases ha : es.any (fun z => z.refKey) with
    | true => rw [ha] at h; cases h
    | false => rw [Bool.and_false]

structure Sets (K : Frag) (C : Addr) (name : Str) : Prop where
  hs : findIn K (.ref C) "__setattr__" = some (some (.builtin "object.__setattr__"))
  hp : plainOver K C = true
  ht : takerIn K C name = some none
  hh : hasDictIn K C = true

theorem osa_ns {A : Around} {s : Shared} {x C d : Addr} {m : List (Str × AV)} {name : Str} {tk : Tok} {v : AV} {a : Value} {R : Result → Shared → Prop} (X : K.In h₀) (S : Sets K C name) (rl : Rel prog w h₀ σ s.heap) (hx : σ x = some (.inst C d)) (hd : σ d = some (.ns m)) (hm : m.length < 1000)
    (r : VR s.heap v a) (h : ∀ h', Post prog w h₀ (dom σ) s (σ.set d (.ns ((name, v) :: m))) { s with heap := h', toks := s.toks + 1 } → R (.ok (.ret .none)) { s with heap := h', toks := s.toks + 1 }) :
    codeAny (model prog w) A (.call (.builtin "object.__setattr__") ⟨[.ref x, .str name tk, a], []⟩) R s := by
  have i1 := rl.at' _ _ hx
  obtain ⟨es, ne, i2, i3, i4⟩ := rl.at' _ _ hd
  have hl : (getL name es).isSome = true := by
    have := i4 name
    split at this
    · obtain ⟨a, e, _⟩ := this; rw [e]; rfl
    · rw [this]; rfl
  have X' := rl.frag X
  have I : InstAt s.heap x (instObj C d) C (some (dictOf es ne)) := ⟨i1, rfl, rfl, i2⟩
  refine osa_open X' I S.hp S.ht fun b => ?_
  obtain ⟨cd, hc, hd'⟩ := any_some S.hh
  refine wpAny_bind (wpAny_pure (wpAny_bind (wpAny_bind (wpAny_loadPart i1 (wpAny_bind ((looks_clsIn X' hc).here ?_))))))
  rw [hd']
  refine wpAny_pure (a := some d) (wpAny_bind (wpAny_pure (wpAny_bind ?_)))
  unfold nsSet
  refine wpAny_bind (wpAny_bind (wpAny_askSetting (wpAny_pure (wpAny_bind (wpAny_mkText (wpAny_bind (wpAny_loadPart i2 ?_)))))))
  dsimp only
  have c : (!es.toArray.any (·.key.isStr name) && es.toArray.any (·.refKey)) = false := by
    rw [← Array.any_toList, ← Array.any_toList]; exact getL_c hl
  rw [aRefKeyMayBeTheName_at, c]
  refine wpAny_updatePart i2 ?_
  have upd : (s.heap.update d (Obj.putName name (PyData.keyHash w.params name) (.str name s.toks) a)).get? d = some (dictOf (putL name (PyData.keyHash w.params name) (.str name s.toks) a es) (putN name es ne)) := by
    rw [← putName_dict]
    exact Heap.get?_update_self _ i2 (by rw [putName_dict]; rfl)
  have hlen := putL_len (x := name) (hsh := PyData.keyHash w.params name) (k := .str name s.toks) (v := a) es
  refine wpAny_bind (wpAny_lookBehind upd (by exact pastItsLine_dict (by rw [List.size_toArray, sizeLine_eq]; omega)) ?_)
  refine wpAny_pure (h _ (upd_post (o' := .ns ((name, v) :: m)) rl hd (fun b o q e => (Heap.get?_update_other _ _ (Ne.symm q)).trans e) fun ht => ⟨_, _, upd, ?_, fun y => ?_⟩))
  · rw [List.length_cons]; omega
  · have e := getL_put (y := y) (hsh := PyData.keyHash w.params name) (tk := s.toks) (v := a) hl
    rw [List.lookup_cons]
    by_cases q : y = name
    · subst q
      simp only [beq_self_eq_true]
      rw [if_pos rfl] at e
      exact ⟨a, e, r.mono ht⟩
    · have q' : (y == name) = false := by simpa using q
      simp only [q']
      rw [if_neg q] at e
      have := i4 y
      split at this <;> rename_i g <;> rw [g]
      · obtain ⟨a', e', v'⟩ := this; exact ⟨a', e.trans e', v'.mono ht⟩
      · exact e.trans this

theorem Ex_setattr {o value : Expr} {name : Str} {pos' pos : Pos} {Q : AF → Rho → AS → Prop} (X : K.In h₀)
    (h : Ev prog w h₀ n env ρ σ value fun v σ₁ => Ev prog w h₀ n env ρ σ₁ o fun ov σ₂ => ∃ x C d m, ov = .obj x ∧ Sets K C name ∧ σ₂ x = some (.inst C d) ∧ σ₂ d = some (.ns m) ∧ m.length < 1000 ∧ Q .next ρ (σ₂.set d (.ns ((name, v) :: m))))
    (hs : swapsWith value (some (.Attribute o name pos')) pos.line env = pure false := by rfl) : Ex prog w h₀ n env ρ σ (.Assign [.Attribute o name pos'] value pos) Q := fun A s ok rl F =>
  plainObj_wpAny_Assign_Attribute (wpAny_mono (h A s ok rl F) (fun a s₁ ⟨v, σ₁, p₁, r₁, h₁⟩ => wpAny_mono (h₁ A s₁ ok p₁.rel (F.post p₁)) (fun c s₂ ⟨ov, σ₂, p₂, r₂, x, C, d, m, e₁, S, hx, hd, hm, q⟩ => by
    subst e₁
    cases r₂
    have X' := p₂.rel.frag X
    have i1 := p₂.rel.at' _ _ hx
    obtain ⟨es, ne, i2, _⟩ := p₂.rel.at' _ _ hd
    have pt := toks_post p₂.rel (s₂.toks + 1)
    refine set_plain X' (od := some (dictOf es ne)) ⟨i1, rfl, rfl, i2⟩ S.hs (osa_ns (s := { s₂ with toks := s₂.toks + 1 }) X S pt.rel hx hd hm (pt.vr (p₂.vr r₁)) fun h' p₃ => ?_)
    have p := ((p₁.trans' p₂).trans' pt).trans' p₃
    exact ⟨.next, ρ, _, p.mono fun _ d => .inl d, F.post p, .next, q⟩) fun _ _ x => x) fun _ _ x => x) hs

theorem Cl_make {C fI : Addr} {args : List AV} {Q : AV → AS → Prop} (X : K.In h₀) (hm : makesIn K C = true) (hi : findIn K (.ref C) "__init__" = some (some (.ref fI))) (hf : typeIn K (.ref fI) = some (.type "function"))
    (h : ∀ x d, σ x = none → σ d = none → x ≠ d → h₀.get? x = none → h₀.get? d = none → Cd prog w h₀ n ((σ.set d (.ns [])).set x (.inst C d)) (.raw (.ref fI)) (.obj x :: args) fun v σ' => v = .none ∧ Q (.obj x) σ') :
    Cl prog w h₀ (n + 1) σ (.raw (.ref C)) args Q := fun A s f as ok rl z zs => by
  cases z
  have X' := rl.frag X
  obtain ⟨hh, g, dr, t, os⟩ := s
  have hd := get_push_new hh (o := default)
  have hx : (hh.push emptyDict).get? (hh.objs.size + 1) = none := by
    have := get_push_new (hh.push emptyDict) (o := default)
    rwa [Heap.size_push] at this
  have p₁ := new_post (n := t) (s := ⟨hh, g, dr, t, os⟩) (o := .ns []) rl hd (h' := hh.push emptyDict) (fun b o e => Heap.get?_push_of_some _ e) ⟨[], 0, Heap.get?_push_size _ rfl, Nat.zero_le _, fun _ => rfl⟩
  have p₂ := new_post (n := t) (s := ⟨hh.push emptyDict, g, dr, t, os⟩) (o := .inst C hh.objs.size) p₁.rel hx (h' := (hh.push emptyDict).push (instObj C hh.objs.size)) (fun b o e => Heap.get?_push_of_some _ e) (by
    have := Heap.get?_push_size (hh.push emptyDict) (o := instObj C hh.objs.size) rfl
    rwa [Heap.size_push] at this)
  have p := p₁.trans' p₂
  have hne : hh.objs.size + 1 ≠ hh.objs.size := Nat.succ_ne_self _
  have hx0 : σ (hh.objs.size + 1) = none := by
    have := p₁.rel.none_of_new hx
    rwa [AS.set_ne _ _ hne] at this
  have b0 : ∀ b, hh.get? b = none → h₀.get? b = none := fun b hb => by
    cases e : h₀.get? b with
    | none => rfl
    | some o => rw [rl.base b o e] at hb; cases hb
  have hx' : hh.get? (hh.objs.size + 1) = none := by
    cases e : hh.get? (hh.objs.size + 1) with
    | none => rfl
    | some o => exact absurd (show hh.objs.size + 1 < hh.objs.size from Heap.lt_size e) (by omega)
  have ok' : Ok n (A.under (.builtin "type.__call__" ⟨.ref C :: as, []⟩)) := ⟨ok.handled, by have := ok.depth; show A.depth + 1 + n < _; omega, by have := ok.units; show A.units + 1 + 4 * n + 40 < _; omega⟩
  refine wpAny_call (make_core (makes_of X' hm) (looks_findIn X' hi) (fun self => bind_fn X' self hf) (.inl rfl) (codeAny_mono (h (hh.objs.size + 1) hh.objs.size hx0 (rl.none_of_new hd) hne (b0 _ hx') (b0 _ hd) _ _ (.ref fI) (.ref (hh.objs.size + 1) :: as) ok' p.rel (.raw _) (.cons (.obj _) (p.vrs zs))) fun r s' q => ?_))
  rcases r with e | (v | _ | _ | _)
  · exact q.elim
  all_goals first | exact q.elim | skip
  obtain ⟨v', σ', p₃, r₃, rfl, q⟩ := q
  cases r₃
  exact ⟨rfl, .obj _, σ', p.trans' p₃, .obj _, q⟩
end
-- Pr0
noncomputable def top : List Stmt := PySem.Challenge.pw_nn0308_01.main.body
noncomputable def stAt (k : Nat) : Stmt := top.getD k (.Pass default)
noncomputable def dBody : Stmt → List Stmt
  | .FunctionDef _ _ b _ _ _ _ _ _ _ => b
  | _ => []
noncomputable def dArgs : Stmt → Arguments
  | .FunctionDef _ a _ _ _ _ _ _ _ _ => a
  | _ => default
noncomputable def dScope : Stmt → Scope
  | .FunctionDef _ _ _ _ _ _ s _ _ _ => s
  | _ => default
noncomputable def dName : Stmt → Str
  | .FunctionDef n _ _ _ _ _ _ _ _ _ => n
  | .ClassDef n _ _ _ _ _ _ _ _ _ _ => n
  | _ => Str.ofString ""
noncomputable def cBody : Stmt → List Stmt
  | .ClassDef _ _ _ b _ _ _ _ _ _ _ => b
  | _ => []

noncomputable def Fn (h₀ : Heap) (f : Addr) (st : Stmt) : Prop := FnAt h₀ f (dArgs st) (dBody st) (dScope st)

section
variable {prog : Program} {w : World} {h₀ : Heap} {n : Nat} {σ : AS} {mg mb : Str → Option Value}

noncomputable def varOf (l : Int) : Int := if Builtin.bitAnd l 1 == 1 then -(l.fdiv (2 ^ 1) + 1) else l.fdiv (2 ^ 1) + 1

theorem Exs_hide {env : Env} {ρ : Rho} {st : List Stmt} {Q : AF → Rho → AS → Prop} (h : ∀ Q' : AF → Rho → AS → Prop, (∀ fl ρ σ, Q fl ρ σ → Q' fl ρ σ) → Exs prog w h₀ n env ρ σ st Q') : Exs prog w h₀ n env ρ σ st Q := h Q fun _ _ _ x => x
end
-- Pr1
noncomputable def Same (xs : List Str) (ρ ρ' : Rho) : Prop := ∀ x, xs.contains x = false → ρ' x = ρ x
theorem Same.refl {xs : List Str} {ρ : Rho} : Same xs ρ ρ := fun _ _ => rfl
theorem Same.set {xs : List Str} {ρ ρ' : Rho} {x : Str} {v : AV} (h : Same xs ρ ρ') (hx : xs.contains x = true := by rfl) : Same xs ρ (ρ'.set x v) := fun y hy => by
  unfold Rho.set
  rw [if_neg (fun e => by subst e; rw [hx] at hy; cases hy)]
  exact h y hy
theorem Same.trans {xs : List Str} {ρ ρ' ρ'' : Rho} (h : Same xs ρ ρ') (h' : Same xs ρ' ρ'') : Same xs ρ ρ'' := fun y hy => (h' y hy).trans (h y hy)
theorem Rho.get_set {ρ : Rho} {x : Str} {v : AV} : (ρ.set x v) x = some v := if_pos rfl
theorem Rho.get_ne {ρ : Rho} {x y : Str} {v : AV} (h : (y == x) = false) : (ρ.set x v) y = ρ y := if_neg fun e => by subst e; simp at h

theorem Same.get {xs : List Str} {ρ ρ' : Rho} {x : Str} {v : AV} (h : Same xs ρ ρ') (hv : ρ x = some v) (hx : xs.contains x = false := by rfl) : ρ' x = some v := (h x hx).trans hv
theorem Rho.skip {ρ : Rho} {x y : Str} {v u : AV} (hv : ρ y = some u) (h : (y == x) = false := by rfl) : (ρ.set x v) y = some u := (Rho.get_ne h).trans hv

structure FA where
  variable_of : Addr
  cone_nodes : Addr
  aig_cnf : Addr
  differ_clauses : Addr
  satisfies : Addr
  dimacs_text : Addr
  whole_word : Addr
  read_dimacs : Addr
  Aig : Addr
  pick : Addr
  of_ : Addr
  graph : Addr

structure Cx (h₀ : Heap) (mg mb : Str → Option Value) (K : Frag) (fs : FA) : Prop where
  top : Top0 h₀ mg mb
  kin : K.In h₀
  nlen : mg "len" = none
  nrange : mg "range" = none
  nabs : mg "abs" = none
  nmin : mg "min" = none
  nsum : mg "sum" = none
  nlist : mg "list" = none
  ntuple : mg "tuple" = none
  nint : mg "int" = none

section
variable {prog : Program} {w : World} {h₀ : Heap} {n : Nat} {σ : AS} {mg mb : Str → Option Value} {K : Frag} {fs : FA}

noncomputable def litHolds (bs : List Bool) (l : Int) : Bool := (bs.getD l.natAbs false) == decide (0 < l)
noncomputable def clauseHolds (bs : List Bool) (c : List Int) : Bool := c.any (litHolds bs)
noncomputable def satF (cs : List (List Int)) (bs : List Bool) : Bool := cs.all (clauseHolds bs)
noncomputable def clAV (cs : List (List Int)) : List AV := cs.map fun c => .tup (c.map .int)

theorem Cmp_igt {i j : Int} {Q : AV → AS → Prop} (h : Q (.bool (decide (j < i))) σ) : Cmp prog w h₀ n σ .Gt (.int i) (.int j) Q := fun A s a b ok rl x y => by
  cases x; cases y; exact PyProof.Rows.gt_int ⟨_, σ, .refl rl fun _ d => d, .bool _, h⟩

theorem satisfies_spec (C : Cx h₀ mg mb K fs) {f : Addr} (X : Fn h₀ f (stAt 9)) {c m : Addr} {cs : List (List Int)} {bs : List Bool} {Q : AV → AS → Prop} (hc : σ c = some (.list (clAV cs))) (hm : σ m = some (.list (bs.map .bool)))
    (hb : ∀ cl ∈ cs, ∀ l ∈ cl, l.natAbs < bs.length) (hz : bs.length < 2 ^ 30) (h : Q (.bool (satF cs bs)) σ) : Cl prog w h₀ (n + 1) σ (.raw (.ref f)) [.obj c, .obj m] Q := by
  refine Cl_def (names := ["clauses", "model"]) C.top X ?_ rfl ?_
  · intro _ _ _ _ _ _ _ vals hl
    match vals, hl with
    | [a, b], _ => rfl
  intro qual cdv L hL hL0
  refine Exs_cons (Ex_for (fun i vs ρ' σ' => σ' = σ ∧ Same ["clause", "held", "literal"] (bindA ["clauses", "model"] [.obj c, .obj m] fun _ => none) ρ' ∧ (cs.take i).all (clauseHolds bs) = true)
    (EvIt_list (Ev_local rfl rfl ⟨c, _, rfl, hc, ⟨rfl, .refl, rfl⟩, fun i ρ' σ' _ hi => by rw [hi.1]; exact hc, ?_, ?_⟩)))
  · rintro i v ρ' σ' hv ⟨rfl, hS, hall⟩
    obtain ⟨cl, hcl, rfl⟩ : ∃ cl, cs[i]? = some cl ∧ v = .tup (cl.map .int) := by
      simp only [clAV, List.getElem?_map, Option.map_eq_some_iff] at hv
      obtain ⟨cl, h1, h2⟩ := hv; exact ⟨cl, h1, h2.symm⟩
    refine As_name (.inl rfl) ?_
    refine Exs_cons (Ex_assign (Ev_bool ?_) (.inl rfl))
    refine Exs_cons (Ex_for (fun j vs ρ'' σ'' => σ'' = σ' ∧ Same ["held", "literal"] (ρ'.set "clause" (.tup (cl.map .int))) ρ'' ∧ ρ'' "held" = some (.bool ((cl.take j).any (litHolds bs))))
      (EvIt_tup (Ev_local rfl rfl ⟨_, rfl, ⟨rfl, Same.refl.set, rfl⟩, fun _ _ _ _ _ => trivial, ?_, ?_⟩)))
    · rintro j v ρ'' σ'' hv ⟨rfl, hS', hheld⟩
      obtain ⟨l, hl, rfl⟩ : ∃ l, cl[j]? = some l ∧ v = .int l := by
        simp only [List.getElem?_map, Option.map_eq_some_iff] at hv
        obtain ⟨l, h1, h2⟩ := hv; exact ⟨l, h1, h2.symm⟩
      have hlt : l.natAbs < bs.length := hb cl (List.mem_of_getElem? hcl) l (List.mem_of_getElem? hl)
      refine As_name (.inl rfl) ?_
      refine Exs_cons (Ex_if (Tr_cmp (Ev_sub (Ev_local (Rho.skip (hS'.get (Rho.skip (hS.get rfl)))) rfl (Ev_callv (Ev_builtin C.top C.nabs rfl rfl ⟨_, rfl, rfl, Evs_cons (Ev_local rfl rfl (Evs_nil (Cl_abs ?_)))⟩))))))
      refine ⟨m, _, _, .bool (bs.getD l.natAbs false), rfl, rfl, hm, ⟨by omega, by split <;> omega, .inl ⟨by split <;> omega, ?_⟩⟩, ?_⟩
      · have e : (if l < 0 then -l else l).toNat = l.natAbs := by split <;> omega
        rw [e, List.getElem?_map, List.getElem?_eq_getElem hlt]
        simp [hlt]
      refine Ev_cmp (Ev_local rfl rfl (Ev_int (Cmp_igt ?_)))
      refine Cmp_beq (Truthy_bool ?_)
      have hstep : (cl.take (j + 1)).any (litHolds bs) = ((cl.take j).any (litHolds bs) || litHolds bs l) := by
        rw [List.take_succ, hl]; simp
      cases hq : (bs.getD l.natAbs false == decide (0 < l)) with
      | true =>
        simp only [if_true]
        refine Exs_cons (Ex_assign (Ev_bool ?_) (.inl rfl))
        refine Exs_nil (Exs_nil ⟨rfl, (hS'.set).set, ?_⟩)
        rw [hstep, show litHolds bs l = true from hq, Bool.or_true]; rfl
      | false =>
        simp only [Bool.false_eq_true, if_false]
        refine Exs_nil (Exs_nil ⟨rfl, hS'.set, ?_⟩)
        rw [hstep, show litHolds bs l = false from hq, Bool.or_false]; exact hheld
    · rintro ρ'' σ'' ⟨rfl, hS', hheld⟩
      have hstep : (cs.take (i + 1)).all (clauseHolds bs) = ((cs.take i).all (clauseHolds bs) && clauseHolds bs cl) := by
        rw [List.take_succ, hcl]; simp
      rw [List.length_map, List.take_length] at hheld
      refine Exs_cons (Ex_if (Tr_not (Tr_plain (Ev_local hheld rfl (Truthy_bool ?_)))))
      cases hq : cl.any (litHolds bs) with
      | true =>
        simp only [Bool.not_true, Bool.false_eq_true, if_false]
        refine Exs_nil (Exs_nil ⟨rfl, ?_, ?_⟩)
        · exact fun x hx => (hS' x (by simp at hx ⊢; exact hx.2)).trans ((Rho.get_ne (by simp at hx ⊢; exact hx.1)).trans (hS x hx))
        · rw [hstep, hall]; exact hq
      | false =>
        simp only [Bool.not_false, if_true]
        refine Exs_cons (Ex_ret (Ev_bool ?_))
        show Q (.bool false) _
        have : satF cs bs = false := by
          unfold satF
          rw [List.all_eq_false]
          exact ⟨cl, List.mem_of_getElem? hcl, by show ¬ cl.any (litHolds bs) = true; rw [hq]; decide⟩
        rw [← this]; exact h
  · rintro ρ' σ' ⟨rfl, hS, hall⟩
    refine Exs_cons (Ex_ret (Ev_bool ?_))
    show Q (.bool true) _
    have : satF cs bs = true := by
      unfold satF
      simp only [clAV, List.length_map, List.take_length] at hall
      exact hall
    rw [← this]; exact h
end
-- Pr2
abbrev Nd := Option (Int × Int)
noncomputable def ndAV : Nd → AV
  | none => .none
  | some (l, r) => .tup [.int l, .int r]

structure IsAig (σ : AS) (x C d nl : Addr) (m : List (Str × AV)) (nodes : List Nd) : Prop where
  x : σ x = some (.inst C d)
  d : σ d = some (.ns m)
  look : m.lookup (Str.ofString "nodes") = some (AV.obj nl)
  list : σ nl = some (.list (nodes.map ndAV))

section
variable {prog : Program} {w : World} {h₀ : Heap} {n : Nat} {σ : AS} {mg mb : Str → Option Value} {K : Frag} {fs : FA} {env : Env} {ρ : Rho}

theorem IsAig.le {σ σ' : AS} {x C d nl : Addr} {m : List (Str × AV)} {nodes : List Nd} (a : IsAig σ x C d nl m nodes) (l : AS.le σ σ') : IsAig σ' x C d nl m nodes := ⟨l _ _ a.x, l _ _ a.d, a.look, l _ _ a.list⟩

structure Cls (K : Frag) (C : Addr) : Prop where
  get : ∀ x : Str, plainGet K C x = true
  dict : hasDictIn K C = true
  nodes : findIn K (.ref C) "nodes" = some none
  inputs : findIn K (.ref C) "inputs" = some none
  outputs : findIn K (.ref C) "outputs" = some none
  table : findIn K (.ref C) "table" = some none

theorem Ev_nodes (X : K.In h₀) {C : Addr} (c : Cls K C) {e : Expr} {pos : Pos} {Q : AV → AS → Prop}
    (h : Ev prog w h₀ n env ρ σ e fun o σ₁ => ∃ x d nl m nodes, o = .obj x ∧ IsAig σ₁ x C d nl m nodes ∧ Q (.obj nl) σ₁)
    (he : eval (.Attribute e "nodes" pos) env = (do
      let o ← eval e env
      standAt pos.atName
      let r ← holding [o] (getAttr o "nodes" true)
      letTemporaryGo e o r
      pure r) := by with_unfolding_all rfl) : Ev prog w h₀ n env ρ σ (.Attribute e "nodes" pos) Q :=
  Ev_attr (h.mono fun o σ₁ ⟨x, d, nl, m, nodes, e, a, q⟩ => by
    subst e
    exact Attr_inst X a.x a.d a.look (c.get _) c.dict c.nodes (fun h v r => by cases r; rfl) q) he

noncomputable def isAnd (nodes : List Nd) (k : Nat) : Bool := match nodes[k]? with
  | some (some _) => true
  | _ => false

theorem is_and_spec (C : Cx h₀ mg mb K fs) (c : Cls K fs.Aig) {f : Addr} (X : Fn h₀ f ((cBody (stAt 14)).getD 3 (.Pass default))) {x d nl : Addr} {m : List (Str × AV)} {nodes : List Nd} {k : Nat} {Q : AV → AS → Prop} (a : IsAig σ x fs.Aig d nl m nodes) (hk : k < nodes.length) (hz : nodes.length < 2 ^ 30)
    (h : Q (.bool (isAnd nodes k)) σ) : Cl prog w h₀ (n + 1) σ (.raw (.ref f)) [.obj x, .int k] Q := by
  refine Cl_def (names := ["self", "node"]) C.top X ?_ rfl ?_
  · intro _ _ _ _ _ _ _ vals hl
    match vals, hl with
    | [a, b], _ => rfl
  intro qual cdv L hL hL0
  refine Exs_cons (Ex_ret (Ev_cmp (Ev_sub (Ev_nodes C.kin c (Ev_local rfl rfl ⟨x, d, nl, m, nodes, rfl, a, Ev_local rfl rfl ⟨nl, _, k, ndAV nodes[k], rfl, rfl, a.list, ⟨by omega, by omega, .inl ⟨by omega, ?_⟩⟩, Ev_none ?_⟩⟩)))))
  · simp [List.getElem?_map, List.getElem?_eq_getElem hk]
  · show Cmp _ _ _ _ _ _ (ndAV nodes[k]) _ _
    have e : nodes[k]? = some nodes[k] := List.getElem?_eq_getElem hk
    unfold isAnd at h
    rw [e] at h
    cases q : nodes[k] with
    | none => rw [q] at h; exact Cmp_isnot_none h
    | some p => rw [q] at h; exact Cmp_isnot_tup h
end
-- Pr3
noncomputable def half (l : Int) : Int := l.fdiv (2 ^ Int.toNat 1)
theorem half_eq (l : Int) : half l = l / 2 := by
  unfold half
  rw [Int.fdiv_eq_ediv_of_nonneg _ (by decide)]
  rfl

noncomputable def markF (u : List Bool) (ls : List Int) : List Bool := ls.foldl (fun u l => u.set (half l).toNat true) u
noncomputable def sweepStep (nodes : List Nd) (u : List Bool) (k : Nat) : List Bool :=
  if u.getD k false then (match nodes[k]? with
    | some (some (l, r)) => (u.set (half l).toNat true).set (half r).toNat true
    | _ => u) else u
noncomputable def sweepF (nodes : List Nd) (u : List Bool) (i : Nat) : List Bool := (List.range i).foldl (fun u i => sweepStep nodes u (nodes.length - 1 - i)) u
noncomputable def usedF (nodes : List Nd) (lits : List Int) : List Bool := sweepF nodes (markF (List.replicate nodes.length false) lits) (nodes.length - 1)
noncomputable def coneF (nodes : List Nd) (lits : List Int) : List Nat := (List.range nodes.length).filter fun k => (usedF nodes lits).getD k false

noncomputable def Topo (nodes : List Nd) : Prop := ∀ (k : Nat) (l r : Int), nodes[k]? = some (some (l, r)) → 0 ≤ l ∧ 0 ≤ r ∧ half l < k ∧ half r < k
noncomputable def Lits (nodes : List Nd) (lits : List Int) : Prop := ∀ l ∈ lits, 0 ≤ l ∧ half l < nodes.length

theorem half_nonneg {l : Int} (h : 0 ≤ l) : 0 ≤ half l := by rw [half_eq]; omega
theorem markF_length (u : List Bool) (ls : List Int) : (markF u ls).length = u.length := by
  unfold markF
  induction ls generalizing u with
  | nil => rfl
  | cons l ls ih => rw [List.foldl_cons, ih, List.length_set]
theorem sweepStep_length (nodes : List Nd) (u : List Bool) (k : Nat) : (sweepStep nodes u k).length = u.length := by
  unfold sweepStep
  split
  · split
    · rw [List.length_set, List.length_set]
    · rfl
  · rfl
theorem sweepF_succ (nodes : List Nd) (u : List Bool) (i : Nat) : sweepF nodes u (i + 1) = sweepStep nodes (sweepF nodes u i) (nodes.length - 1 - i) := by
  unfold sweepF
  rw [List.range_succ, List.foldl_append]; rfl
theorem sweepF_length (nodes : List Nd) (u : List Bool) (i : Nat) : (sweepF nodes u i).length = u.length := by
  induction i with
  | zero => rfl
  | succ i ih => rw [sweepF_succ, sweepStep_length, ih]

theorem filter_succ (p : Nat → Bool) (i : Nat) : (List.range (i + 1)).filter p = (List.range i).filter p ++ if p i then [i] else [] := by
  rw [List.range_succ, List.filter_append]
  congr 1
  cases h : p i <;> simp [h]
theorem bool_at {u : List Bool} {k : Nat} (h : k < u.length) : (u.map AV.bool)[k]? = some (.bool (u.getD k false)) := by
  rw [List.getElem?_map, List.getElem?_eq_getElem h]; simp [h]
theorem set_bool (u : List Bool) (k : Nat) (b : Bool) : (u.map AV.bool).set k (.bool b) = (u.set k b).map AV.bool := by rw [List.map_set]

section
variable {prog : Program} {w : World} {h₀ : Heap} {n : Nat} {σ : AS} {mg mb : Str → Option Value} {K : Frag} {fs : FA} {env : Env} {ρ : Rho}

structure ClsM (h₀ : Heap) (K : Frag) (C f : Addr) (name : Str) (st : Stmt) : Prop where
  find : findIn K (.ref C) name = some (some (.ref f))
  fn : isFn K (.ref f) = true
  keep : keepIn K (.ref f) = true
  at' : Fn h₀ f st

theorem Ev_lennodes (C : Cx h₀ mg mb K fs) (c : Cls K fs.Aig) {e : Expr} {np ap pos : Pos} {Q : AV → AS → Prop}
    (h : Ev prog w h₀ n env ρ σ e fun o σ₁ => ∃ x d nl m nodes, o = .obj x ∧ IsAig σ₁ x fs.Aig d nl m nodes ∧ nodes.length < 2 ^ 30 ∧ Q (.int nodes.length) σ₁) (hk : env.kindOf "len" = some .globalImplicit := by rfl)
    (he : eval (.Attribute e "nodes" ap) env = (do
      let o ← eval e env
      standAt ap.atName
      let r ← holding [o] (getAttr o "nodes" true)
      letTemporaryGo e o r
      pure r) := by with_unfolding_all rfl) : Ev prog w h₀ n env ρ σ (.Call (.Name "len" np) [.Attribute e "nodes" ap] [] pos) Q := by
  refine Ev_callv (Ev_builtin C.top C.nlen rfl hk ⟨_, rfl, rfl, Evs_cons (Ev_nodes C.kin c (h.mono fun o σ₁ ⟨x, d, nl, m, nodes, e, a, hz, q⟩ => ⟨x, d, nl, m, nodes, e, a, Evs_nil (Cl_lenlist a.list (by rw [List.length_map]; omega) (by rw [List.length_map]; exact q))⟩) he)⟩)

theorem EvIt_downnodes (C : Cx h₀ mg mb K fs) (c : Cls K fs.Aig) {e : Expr} {np ap pos rp bp p₁ p₂ p₃ p₄ rpos : Pos} {k₁ k₂ k₃ : Nat} {Q : List AV → (AS → Prop) → AS → Prop}
    (h : Ev prog w h₀ n env ρ σ e fun o σ₁ => ∃ x d nl m nodes, o = .obj x ∧ IsAig σ₁ x fs.Aig d nl m nodes ∧ nodes.length < 2 ^ 30 ∧ Q (rng ((nodes.length : Int) - 1) (-1) (nodes.length - 1)) (fun _ => True) σ₁) (hk : env.kindOf "len" = some .globalImplicit := by rfl) (hr : env.kindOf "range" = some .globalImplicit := by rfl)
    (he : eval (.Attribute e "nodes" ap) env = (do
      let o ← eval e env
      standAt ap.atName
      let r ← holding [o] (getAttr o "nodes" true)
      letTemporaryGo e o r
      pure r) := by with_unfolding_all rfl) : EvIt prog w h₀ n env ρ σ (.Call (.Name "range" rp) [.BinOp (.Call (.Name "len" np) [.Attribute e "nodes" ap] [] pos) .Sub (.Constant (.int 1) k₁ p₁) bp, .Constant (.int 0) k₂ p₂, .UnaryOp .USub (.Constant (.int 1) k₃ p₃) p₄] [] rpos) Q := by
  refine EvIt_down (Ev_builtin C.top C.nrange rfl hr ⟨rfl, ?_⟩)
  refine Evs_cons (Ev_bin (Ev_lennodes C c (h.mono fun o σ₁ ⟨x, d, nl, m, nodes, e, a, hz, q⟩ => ⟨x, d, nl, m, nodes, e, a, hz, ?_⟩) hk he))
  refine Ev_int (Bin_sub (Evs_cons (Ev_int (Evs_cons (Ev_un (Ev_int (Un_neg (Evs_nil ⟨(nodes.length : Int) - 1, rfl, by omega, by omega, ?_⟩))))))))
  rw [show ((nodes.length : Int) - 1).toNat = nodes.length - 1 from by omega]
  exact q

theorem cone_nodes_spec (C : Cx h₀ mg mb K fs) (c : Cls K fs.Aig) {f g : Addr} (X : Fn h₀ f (stAt 6)) (M : ClsM h₀ K fs.Aig g "is_and" ((cBody (stAt 14)).getD 3 (.Pass default))) {x d nl lt : Addr} {m : List (Str × AV)} {nodes : List Nd} {lits : List Int} {Q : AV → AS → Prop}
    (a : IsAig σ x fs.Aig d nl m nodes) (hm : m.lookup (Str.ofString "is_and") = none) (ht : Topo nodes) (hl : Lits nodes lits) (hlt : σ lt = some (.list (lits.map .int))) (hz : nodes.length < 2 ^ 20) (hz0 : 0 < nodes.length) (hlz : lits.length < 2 ^ 20)
    (h : ∀ D, σ D = none → h₀.get? D = none → Q (.obj D) (σ.set D (.list ((coneF nodes lits).map fun (k : Nat) => AV.int k)))) : Cl prog w h₀ (n + 2) σ (.raw (.ref f)) [.obj x, .obj lt] Q := by
  refine Cl.forget (Cl_def (names := ["aig", "literals"]) C.top X ?_ rfl ?_)
  · intro _ _ _ _ _ _ _ vals hl
    match vals, hl with
    | [a, b], _ => rfl
  intro qual cdv L hL hL0
  refine Exs_cons (Ex_assign (Ev_listmul (Ev_bool (Ev_lennodes C c (Ev_local rfl rfl ⟨x, d, nl, m, nodes, rfl, a, by omega, nodes.length, rfl, by omega, fun U hU hU0 => ?_⟩)))) (.inr ⟨rfl, rfl⟩))
  have eU : ∀ (u : List Bool) y o, y ≠ U → (σ y = some o) → (σ.set U (.list (u.map .bool))) y = some o := fun u y o q e => (AS.set_ne _ _ q).trans e
  have hxU : ∀ y o, σ y = some o → y ≠ U := fun y o e q => by rw [q, hU] at e; cases e
  have aU : ∀ u : List Bool, IsAig (σ.set U (.list (u.map .bool))) x fs.Aig d nl m nodes := fun u => a.le (AS.le_set hU)
  have e0 : List.replicate nodes.length (AV.bool false) = (markF (List.replicate nodes.length false) ((lits).take 0)).map AV.bool := by simp [markF]
  rw [e0]
  refine Exs_cons (Ex_for (fun i vs ρ' σ' => σ' = σ.set U (.list ((markF (List.replicate nodes.length false) (lits.take i)).map .bool)) ∧ Same ["literal"] ((bindA ["aig", "literals"] [.obj x, .obj lt] fun _ => none).set "used" (.obj U)) ρ')
    (EvIt_list (Ev_local rfl rfl ⟨lt, _, rfl, eU _ _ _ (hxU _ _ hlt) hlt, ⟨rfl, .refl⟩, fun i ρ' σ' _ hi => by rw [hi.1]; exact eU _ _ _ (hxU _ _ hlt) hlt, ?_, ?_⟩)))
  · rintro i v ρ' σ' hv ⟨rfl, hS⟩
    obtain ⟨l, hli, rfl⟩ : ∃ l, lits[i]? = some l ∧ v = .int l := by
      simp only [List.getElem?_map, Option.map_eq_some_iff] at hv
      obtain ⟨l, h1, h2⟩ := hv; exact ⟨l, h1, h2.symm⟩
    obtain ⟨l0, l1⟩ := hl l (List.mem_of_getElem? hli)
    have l2 := half_nonneg l0
    refine As_name (.inl rfl) (Exs_cons (Ex_setlist (Ev_bool (Ev_cell (Rho.skip (hS.get rfl)) rfl rfl (Ev_bin (Ev_local rfl rfl (Ev_int (Bin_shr (by decide) ⟨U, _, half l, rfl, rfl, AS.set_same .., l2, ?_, ?_, ?_⟩))))))))
    · rw [List.length_map, markF_length, List.length_replicate]; exact l1
    · rw [List.length_map, markF_length, List.length_replicate]; omega
    · refine Exs_nil ⟨?_, hS.set⟩
      rw [AS.set_set, set_bool]
      congr 3
      rw [List.take_succ, hli]
      simp [markF, List.foldl_append]
  · rintro ρ' σ' ⟨rfl, hS⟩
    rw [List.length_map, List.take_length]
    generalize hu : markF (List.replicate nodes.length false) lits = u₀
    have hu₀ : u₀.length = nodes.length := by rw [← hu, markF_length, List.length_replicate]
    refine Exs_cons (Ex_for (fun i vs ρ'' σ'' => σ'' = σ.set U (.list ((sweepF nodes u₀ i).map .bool)) ∧ Same ["literal", "node", "left", "right"] ((bindA ["aig", "literals"] [.obj x, .obj lt] fun _ => none).set "used" (.obj U)) ρ'')
      (EvIt_downnodes C c (Ev_local (hS.get rfl) rfl ⟨x, d, nl, m, nodes, rfl, aU _, by omega, ?_, fun _ _ _ _ _ => trivial, ?_, ?_⟩)))
    · exact ⟨rfl, fun y hy => hS y (by simp at hy ⊢; exact hy.1)⟩
    · rintro i v ρ'' σ'' hv ⟨rfl, hS'⟩
      obtain ⟨hi', rfl⟩ := rng_get hv
      have ev : (nodes.length : Int) - 1 + (i : Int) * (-1) = ((nodes.length - 1 - i : Nat) : Int) := by omega
      rw [ev]
      generalize hk : nodes.length - 1 - i = k
      have hklt : k < nodes.length := by omega
      have hlen : (sweepF nodes u₀ i).length = nodes.length := by rw [sweepF_length, hu₀]
      refine As_name (.inl rfl) (Exs_hide fun QQ kQ => Exs_cons (Ex_if (Tr_and (Tr_plain (Ev_sub (Ev_cell (Rho.skip (hS'.get rfl)) rfl rfl (Ev_local rfl rfl ⟨U, _, k, .bool ((sweepF nodes u₀ i).getD k false), rfl, rfl, AS.set_same .., ⟨by omega, by omega, .inl ⟨by omega, ?_⟩⟩, Truthy_bool ?_⟩)))))))
      · simp only [Int.toNat_natCast]; exact bool_at (by omega)
      have hsucc : sweepF nodes u₀ (i + 1) = sweepStep nodes (sweepF nodes u₀ i) k := by rw [sweepF_succ, hk]
      cases hb : (sweepF nodes u₀ i).getD k false with
      | false =>
        simp only [Bool.false_eq_true, if_false]
        refine Exs_nil (Exs_nil (kQ _ _ _ ⟨?_, hS'.set⟩))
        rw [hsucc]; unfold sweepStep; rw [hb]; simp
      | true =>
        simp only [if_true]
        refine Tr_and (Tr_plain (Ev_mcall (pl := _) C.kin (Ev_local (Rho.skip (hS'.get rfl)) rfl (Meth_inst C.kin (aU _).x (aU _).d hm (c.get _) M.find M.fn ⟨.inr M.keep, Evs_cons (Ev_local rfl rfl (Evs_nil (is_and_spec C c M.at' (aU _) hklt (by omega) (Truthy_bool ?_))))⟩)) rfl))
        cases hq : isAnd nodes k with
        | false =>
          simp only [Bool.false_eq_true, if_false]
          refine Exs_nil (Exs_nil (kQ _ _ _ ⟨?_, hS'.set⟩))
          rw [hsucc]; unfold sweepStep; rw [hb]
          unfold isAnd at hq
          split at hq
          · cases hq
          · rename_i hno
            simp only [if_true]
            split
            · rename_i l r e; exact absurd e (hno _)
            · rfl
        | true =>
          simp only [if_true]
          obtain ⟨l, r, hlr⟩ : ∃ l r, nodes[k]? = some (some (l, r)) := by
            unfold isAnd at hq
            split at hq
            · rename_i p e; exact ⟨p.1, p.2, e⟩
            · cases hq
          obtain ⟨l0, r0, l1, r1⟩ := ht k l r hlr
          have l2 := half_nonneg l0
          have r2 := half_nonneg r0
          refine Tr_and_nil ?_
          simp only [if_true]
          refine Exs_cons (Ex_assign_tup (Ev_sub (Ev_nodes C.kin c (Ev_local (Rho.skip (hS'.get rfl)) rfl ⟨x, d, nl, m, nodes, rfl, aU _, Ev_local rfl rfl ⟨nl, _, k, .tup [.int l, .int r], rfl, rfl, (aU _).list, ⟨by omega, by omega, .inl ⟨by omega, ?_⟩⟩, As_tup2 (.inl rfl) (.inl rfl) ?_⟩⟩))))
          · simp only [Int.toNat_natCast, List.getElem?_map, hlr]; rfl
          refine Exs_cons (Ex_setlist (Ev_bool (Ev_cell (Rho.skip (Rho.skip (Rho.skip (hS'.get rfl)))) rfl rfl (Ev_bin (Ev_local rfl rfl (Ev_int (Bin_shr (by decide) ⟨U, _, half l, rfl, rfl, AS.set_same .., l2, ?_, ?_, ?_⟩)))))))
          · rw [List.length_map, hlen]; omega
          · rw [List.length_map, hlen]; omega
          rw [AS.set_set, set_bool]
          refine Exs_cons (Ex_setlist (Ev_bool (Ev_cell (Rho.skip (Rho.skip (Rho.skip (hS'.get rfl)))) rfl rfl (Ev_bin (Ev_local rfl rfl (Ev_int (Bin_shr (by decide) ⟨U, _, half r, rfl, rfl, AS.set_same .., r2, ?_, ?_, ?_⟩)))))))
          · rw [List.length_map, List.length_set, hlen]; omega
          · rw [List.length_map, List.length_set, hlen]; omega
          rw [AS.set_set, set_bool]
          refine Exs_nil (Exs_nil (kQ _ _ _ ⟨?_, ((hS'.set).set).set⟩))
          rw [hsucc]; unfold sweepStep; rw [hb, hlr]
          rfl
    · rintro ρ'' σ'' ⟨rfl, hS'⟩
      rw [rng_length]
      have hus : sweepF nodes u₀ (nodes.length - 1) = usedF nodes lits := by rw [usedF, hu]
      rw [hus]
      have hulen : (usedF nodes lits).length = nodes.length := by rw [← hus, sweepF_length, hu₀]
      refine Exs_cons (Ex_ret (Ev_comp (fun i acc σ' => σ' = σ.set U (.list ((usedF nodes lits).map .bool)) ∧ acc = ((List.range i).filter fun k => (usedF nodes lits).getD k false).map fun (k : Nat) => AV.int k)
        (EvIt_range (Ev_builtin C.top C.nrange rfl rfl ⟨rfl, Ev_lennodes C c (Ev_local (hS'.get rfl) rfl ⟨x, d, nl, m, nodes, rfl, aU _, by omega, nodes.length, rfl, by omega, by omega, ?_, ⟨rfl, rfl⟩, fun _ _ _ _ _ => trivial, ?_, ?_⟩)⟩))))
      · rw [rng_length, sizeLine_eq]; omega
      · rintro Cc i v acc σ' hv ⟨rfl, rfl⟩
        obtain ⟨hi, rfl⟩ := rng_get hv
        have hi' : i < nodes.length := by omega
        refine Tr_plain (Ev_sub (Ev_cell (Rho.skip (inner_get (hS'.get rfl))) rfl rfl (Ev_local rfl rfl ⟨U, _, 0 + (i : Int) * 1, .bool ((usedF nodes lits).getD i false), rfl, rfl, AS.set_same .., ⟨by omega, by omega, .inl ⟨by omega, ?_⟩⟩, Truthy_bool ?_⟩)))
        · rw [show (0 + (i : Int) * 1).toNat = i from by omega]; exact bool_at (by omega)
        cases hb : (usedF nodes lits).getD i false with
        | false =>
          rw [if_neg (by decide)]
          refine ⟨rfl, ?_⟩
          rw [filter_succ, if_neg (by rw [hb]; decide), List.append_nil]
        | true =>
          rw [if_pos rfl]
          refine Ev_local rfl rfl ⟨rfl, ?_⟩
          rw [filter_succ, if_pos hb, List.map_append]
          simp
      · rintro D acc σ' ⟨rfl, rfl⟩ hD hD0
        rw [rng_length]
        simp only [AS.set_eq] at hD
        split at hD
        · cases hD
        refine ⟨σ.set D (.list ((coneF nodes lits).map fun (k : Nat) => AV.int k)), ?_, h D hD hD0⟩
        rw [show ((nodes.length : Int)).toNat = nodes.length from by omega]
        exact AS.set_le (AS.le_set hU)
end
-- Pr4
theorem AS.swap (σ : AS) {a b : Addr} {x y z : AO} (h : a ≠ b) : ((σ.set a x).set b y).set a z = (σ.set a z).set b y := by
  rw [AS.set_comm _ _ _ h, AS.set_set, AS.set_comm _ _ _ (Ne.symm h)]
theorem AS.get1 {σ : AS} {a b : Addr} {x o : AO} (h : b ≠ a) (e : σ b = some o) : (σ.set a x) b = some o := (AS.set_ne _ _ h).trans e
theorem AS.ne {σ : AS} {a b : Addr} {o : AO} (e : σ b = some o) (h : σ a = none) : b ≠ a := fun q => by rw [q, h] at e; cases e
theorem AS.get0 {σ : AS} {a b : Addr} {x : AO} (e : (σ.set a x) b = none) : σ b = none ∧ a ≠ b := by
  rw [AS.set_eq] at e
  split at e
  · cases e
  · rename_i q; exact ⟨e, fun z => q z.symm⟩

section
variable {prog : Program} {w : World} {h₀ : Heap} {n : Nat} {σ : AS} {mg mb : Str → Option Value} {K : Frag} {fs : FA} {env : Env} {ρ : Rho}

theorem variable_of_spec {f : Addr} (T : Top0 h₀ mg mb) (X : Fn h₀ f (stAt 5)) {l : Int} {Q : AV → AS → Prop} (h : Q (.int (varOf l)) σ) : Cl prog w h₀ (n + 1) σ (.raw (.ref f)) [.int l] Q := by
  refine Cl_def (names := ["literal"]) T X ?_ ?_ ?_
  · intro _ _ _ _ _ _ _ vals hl
    match vals, hl with
    | [a], _ => rfl
  · rfl
  intro qual cdv L hL hL0
  refine Exs_cons (Ex_assign (Ev_bin (Ev_bin (Ev_local rfl rfl (Ev_int (Bin_shr (by decide) (Ev_int (Bin_add ?_))))))) (.inl rfl))
  refine Exs_cons (Ex_if (Tr_cmp (Ev_bin (Ev_local (Rho.skip rfl) rfl (Ev_int (Bin_and ?_))))))
  refine Ev_int (Cmp_ieq (Truthy_bool ?_))
  unfold varOf at h
  cases hq : Builtin.bitAnd l 1 == 1 with
  | true =>
    rw [if_pos rfl]
    rw [if_pos hq] at h
    exact Exs_cons (Ex_ret (Ev_un (Ev_local rfl rfl (Un_neg h))))
  | false =>
    rw [if_neg (by decide)]
    rw [if_neg (by rw [hq]; decide)] at h
    exact Exs_nil (Exs_cons (Ex_ret (Ev_local rfl rfl h)))

noncomputable def ndCl (nodes : List Nd) (k : Nat) : List (List Int) := if k = 0 then [[-((k : Int) + 1)]] else match nodes[k]? with
  | some (some (l, r)) => [[-((k : Int) + 1), varOf l], [-((k : Int) + 1), varOf r], [(k : Int) + 1, -varOf l, -varOf r]]
  | _ => []
noncomputable def cnfL (nodes : List Nd) (ks : List Nat) : List (List Int) := ks.flatMap (ndCl nodes)
noncomputable def numL (m : Nat) (ks : List Nat) : List Int := ks.foldl (fun v k => v.set k ((k : Int) + 1)) (List.replicate m 0)
theorem numL_length (m : Nat) (ks : List Nat) : (numL m ks).length = m := by
  unfold numL
  have : ∀ (ks : List Nat) (v : List Int), (ks.foldl (fun v k => v.set k ((k : Int) + 1)) v).length = v.length := by
    intro ks
    induction ks with
    | nil => intro v; rfl
    | cons k ks ih => intro v; rw [List.foldl_cons, ih, List.length_set]
  rw [this, List.length_replicate]
theorem cnfL_snoc (nodes : List Nd) (ks : List Nat) (k : Nat) : cnfL nodes (ks ++ [k]) = cnfL nodes ks ++ ndCl nodes k := by simp [cnfL]
theorem numL_snoc (m : Nat) (ks : List Nat) (k : Nat) : numL m (ks ++ [k]) = (numL m ks).set k ((k : Int) + 1) := by simp [numL, List.foldl_append]
theorem ndCl_len (nodes : List Nd) (k : Nat) : (ndCl nodes k).length ≤ 3 := by
  unfold ndCl
  split
  · simp
  · split <;> simp
theorem cnfL_len (nodes : List Nd) (ks : List Nat) : (cnfL nodes ks).length ≤ 3 * ks.length := by
  induction ks with
  | nil => simp [cnfL]
  | cons k ks ih =>
    have : cnfL nodes (k :: ks) = ndCl nodes k ++ cnfL nodes ks := by simp [cnfL]
    rw [this, List.length_append, List.length_cons]
    have := ndCl_len nodes k
    omega
theorem coneF_lt {nodes : List Nd} {lits : List Int} {k : Nat} (h : k ∈ coneF nodes lits) : k < nodes.length := by
  unfold coneF at h
  exact List.mem_range.mp (List.mem_filter.mp h).1
theorem coneF_len (nodes : List Nd) (lits : List Int) : (coneF nodes lits).length ≤ nodes.length := by
  unfold coneF
  have := List.length_filter_le (fun k => (usedF nodes lits).getD k false) (List.range nodes.length)
  rwa [List.length_range] at this

theorem aig_cnf_spec (C : Cx h₀ mg mb K fs) (c : Cls K fs.Aig) {f f₁ f₂ g : Addr} (X : Fn h₀ f (stAt 7)) (X₁ : Fn h₀ f₁ (stAt 6)) (X₂ : Fn h₀ f₂ (stAt 5)) (M : ClsM h₀ K fs.Aig g "is_and" ((cBody (stAt 14)).getD 3 (.Pass default)))
    (G₁ : mg "cone_nodes" = some (.ref f₁)) (G₂ : mg "variable_of" = some (.ref f₂)) (K₁ : keepIn K (.ref f₁) = true) (K₂ : keepIn K (.ref f₂) = true) {x d nl lt : Addr} {m : List (Str × AV)} {nodes : List Nd} {lits : List Int} {Q : AV → AS → Prop}
    (a : IsAig σ x fs.Aig d nl m nodes) (hm : m.lookup (Str.ofString "is_and") = none) (ht : Topo nodes) (hl : Lits nodes lits) (hlt : σ lt = some (.list (lits.map .int))) (hz : nodes.length < 2 ^ 20) (hz0 : 0 < nodes.length) (hlz : lits.length < 2 ^ 20)
    (h : ∀ A V, A ≠ V → σ A = none → σ V = none → h₀.get? A = none → h₀.get? V = none → Q (.tup [.obj A, .obj V]) ((σ.set A (.list (clAV (cnfL nodes (coneF nodes lits))))).set V (.list ((numL nodes.length (coneF nodes lits)).map .int)))) : Cl prog w h₀ (n + 3) σ (.raw (.ref f)) [.obj x, .obj lt] Q := by
  refine Cl.forget (Cl_def (names := ["aig", "literals"]) C.top X ?_ rfl ?_)
  · intro _ _ _ _ _ _ _ vals hl
    match vals, hl with
    | [a, b], _ => rfl
  intro qual cdv L hL hL0
  refine Exs_cons (Ex_assign (Ev_list (Evs_nil ⟨Nat.le_of_ble_eq_true rfl, fun A hA hA0 => ?_⟩)) (.inl rfl))
  have aA : ∀ cs : List AV, IsAig (σ.set A (.list cs)) x fs.Aig d nl m nodes := fun cs => a.le (AS.le_set hA)
  refine Exs_cons (Ex_assign (Ev_listmul (Ev_int (Ev_lennodes C c (Ev_local rfl rfl ⟨x, d, nl, m, nodes, rfl, aA _, by omega, nodes.length, rfl, by omega, fun V hV hV0 => ?_⟩)))) (.inl rfl))
  obtain ⟨hV, hAV⟩ := AS.get0 hV
  have hA' : (σ.set V (AO.list [])) A = none := (AS.set_ne _ _ hAV).trans hA
  have aV : ∀ cs vs : List AV, IsAig ((σ.set A (.list cs)).set V (.list vs)) x fs.Aig d nl m nodes := fun cs vs => (aA cs).le (AS.le_set ((AS.set_ne _ _ (Ne.symm hAV)).trans hV))
  have hlV : ∀ cs vs : List AV, ((σ.set A (.list cs)).set V (.list vs)) lt = some (.list (lits.map .int)) := fun cs vs => AS.get1 (AS.ne hlt hV) (AS.get1 (AS.ne hlt hA) hlt)
  generalize hks : coneF nodes lits = ks at h
  have hkl : ks.length ≤ nodes.length := by rw [← hks]; exact coneF_len ..
  have e0 : List.replicate nodes.length (AV.int 0) = (numL nodes.length (ks.take 0)).map AV.int := by simp [numL]
  rw [e0]
  refine Exs_cons (Ex_forX (EvIt_list (Ev_callK C.kin (Ev_global C.top G₁ rfl ⟨_, rfl, K₁, Evs_cons (Ev_local rfl rfl (Evs_cons (Ev_local rfl rfl (Evs_nil ?_))))⟩))))
  refine cone_nodes_spec C c X₁ M (aV _ _) hm ht hl (hlV _ _) hz hz0 hlz fun D hD hD0 => ?_
  obtain ⟨hD, hVD⟩ := AS.get0 hD
  obtain ⟨hD, hAD⟩ := AS.get0 hD
  rw [hks]
  have hsD : ∀ cs vs ds : List AV, ((σ.set A (.list cs)).set V (.list vs)).set D (.list ds) = ((σ.set D (.list ds)).set A (.list cs)).set V (.list vs) := fun cs vs ds => by
    rw [AS.set_comm _ _ _ hVD, AS.set_comm σ _ _ hAD]
  generalize hσD : σ.set D (.list (ks.map fun (k : Nat) => AV.int k)) = σD
  have aD : ∀ cs vs : List AV, IsAig ((σD.set A (.list cs)).set V (.list vs)) x fs.Aig d nl m nodes := fun cs vs => by
    rw [← hσD, ← hsD]
    exact (aV cs vs).le (AS.le_set ((AS.set_ne _ _ (Ne.symm hVD)).trans ((AS.set_ne _ _ (Ne.symm hAD)).trans hD)))
  have gA : ∀ cs vs : List AV, ((σD.set A (.list cs)).set V (.list vs)) A = some (.list cs) := fun cs vs => AS.get1 hAV (AS.set_same ..)
  refine ⟨D, _, rfl, AS.set_same .., fun i ρ' σ' => σ' = (σD.set A (.list (clAV (cnfL nodes (ks.take i))))).set V (.list ((numL nodes.length (ks.take i)).map .int)) ∧
      Same ["node", "out", "left", "right"] (((bindA ["aig", "literals"] [.obj x, .obj lt] fun _ => none).set "clauses" (.obj A)).set "variables" (.obj V)) ρ', ⟨?_, .refl⟩, ?_, ?_, ?_⟩
  · rw [hsD, hσD]; rfl
  · rintro i ρ' σ' hi ⟨rfl, _⟩
    rw [← hσD, ← hsD]
    exact AS.set_same ..
  · rintro i v ρ' σ' hv ⟨rfl, hS⟩
    obtain ⟨k, hk, rfl⟩ : ∃ k, ks[i]? = some k ∧ v = .int (k : Nat) := by
      simp only [List.getElem?_map, Option.map_eq_some_iff] at hv
      obtain ⟨l, h1, h2⟩ := hv; exact ⟨l, h1, h2.symm⟩
    have hkn : k < nodes.length := by rw [← hks] at hk; exact coneF_lt (List.mem_of_getElem? hk)
    have htk : ks.take (i + 1) = ks.take i ++ [k] := by rw [List.take_succ, hk]; rfl
    have hil : (ks.take i).length ≤ ks.length := by rw [List.length_take]; omega
    have hcl := cnfL_len nodes (ks.take i)
    have hnl := numL_length nodes.length (ks.take i)
    have e1 : cnfL nodes (ks.take (i + 1)) = cnfL nodes (ks.take i) ++ ndCl nodes k := by rw [htk, cnfL_snoc]
    have e2 : numL nodes.length (ks.take (i + 1)) = (numL nodes.length (ks.take i)).set k ((k : Int) + 1) := by rw [htk, numL_snoc]
    generalize cnfL nodes (ks.take i) = cs at hcl e1
    generalize numL nodes.length (ks.take i) = vs at hnl e2
    have hS1 := hS.set (x := "node") (v := .int (k : Nat))
    refine As_name (.inl rfl) (Exs_hide fun QQ kQ => Exs_cons (Ex_assign (Ev_bin (Ev_local rfl rfl (Ev_int (Bin_add ?_)))) (.inl rfl)))
    have hS2 := hS1.set (x := "out") (v := .int ((k : Int) + 1))
    refine Exs_cons (Ex_setlist (Ev_local rfl rfl (Ev_local (hS2.get rfl) rfl (Ev_local rfl rfl ⟨V, _, k, rfl, rfl, AS.set_same .., by omega, ?_, ?_, ?_⟩))))
    · rw [List.length_map, hnl]; omega
    · rw [List.length_map, hnl]; omega
    have e3 : (numL nodes.length (ks.take (i + 1))).map AV.int = (vs.map AV.int).set k (.int ((k : Int) + 1)) := by rw [e2, List.map_set]
    rw [AS.set_set, Int.toNat_natCast]
    generalize (vs.map AV.int).set k (.int ((k : Int) + 1)) = ws at e3
    refine Exs_cons (Ex_if (Tr_cmp (Ev_local rfl rfl (Ev_int (Cmp_ieq (Truthy_bool ?_))))))
    cases h0 : (k : Int) == 0 with
    | true =>
      rw [if_pos rfl]
      have hk0 : k = 0 := by have := eq_of_beq h0; omega
      subst hk0
      have fin : (σD.set A (.list (clAV cs ++ [.tup [.int (-((0 : Nat) : Int) - 1)]]))).set V (.list ws) = (σD.set A (.list (clAV (cs ++ ndCl nodes 0)))).set V (.list ws) := by
        unfold clAV ndCl
        rw [if_pos rfl, List.map_append]; rfl
      have hcl' : (clAV cs).length ≤ sizeLine := by unfold clAV; rw [List.length_map, sizeLine_eq]; omega
      refine Exs_cons (Ex_append (pl := _) C.kin (Ev_local (hS2.get rfl) rfl ⟨A, _, rfl, gA _ _, Ev_tuple (Evs_cons (Ev_un (Ev_local rfl rfl (Un_neg ?_))))⟩))
      refine Evs_nil ⟨Nat.le_of_ble_eq_true rfl, _, gA _ _, hcl', ?_⟩
      rw [AS.swap _ hAV]
      refine Exs_nil (Exs_nil (kQ _ _ _ ⟨?_, hS2⟩))
      rw [e1, e3]
      exact fin
    | false =>
      rw [if_neg (by decide)]
      have hk0 : k ≠ 0 := by intro e; subst e; simp at h0
      refine Exs_cons (Ex_if (Tr_plain (Ev_mcall (pl := _) C.kin (Ev_local (hS2.get rfl) rfl (Meth_inst C.kin (aD _ _).x (aD _ _).d hm (c.get _) M.find M.fn ⟨.inr M.keep, Evs_cons (Ev_local rfl rfl (Evs_nil (is_and_spec C c M.at' (aD _ _) hkn (by omega) (Truthy_bool ?_))))⟩)) rfl)))
      cases hq : isAnd nodes k with
      | false =>
        rw [if_neg (by decide)]
        refine Exs_nil (Exs_nil (Exs_nil (kQ _ _ _ ⟨?_, hS2⟩)))
        rw [e1, e3]
        have : ndCl nodes k = [] := by
          unfold ndCl
          rw [if_neg hk0]
          unfold isAnd at hq
          split at hq
          · cases hq
          · rename_i hno
            split
            · rename_i l r e; exact absurd e (hno _)
            · rfl
        rw [this, List.append_nil]
      | true =>
        rw [if_pos rfl]
        obtain ⟨l, r, hlr⟩ : ∃ l r, nodes[k]? = some (some (l, r)) := by
          unfold isAnd at hq
          split at hq
          · rename_i p e; exact ⟨p.1, p.2, e⟩
          · cases hq
        have hnd : (nodes.map ndAV)[k]? = some (.tup [.int l, .int r]) := by rw [List.getElem?_map, hlr]; rfl
        have hS3 := hS2.set (x := "left") (v := .int (varOf l))
        have hS4 := hS3.set (x := "right") (v := .int (varOf r))
        refine Exs_cons (Ex_assign (Ev_callK C.kin (Ev_global C.top G₂ rfl ⟨_, rfl, K₂, Evs_cons (Ev_subtup (Ev_sub (Ev_nodes C.kin c (Ev_local (hS2.get rfl) rfl ⟨x, d, nl, m, nodes, rfl, aD _ _, Ev_local rfl rfl ⟨nl, _, k, .tup [.int l, .int r], rfl, rfl, (aD _ _).list, ⟨by omega, by omega, .inl ⟨by omega, hnd⟩⟩, Ev_int ?_⟩⟩)))) ⟩)) (.inl rfl))
        refine ⟨_, 0, .int l, rfl, rfl, by decide, by decide, rfl, Evs_nil (variable_of_spec C.top X₂ ?_)⟩
        refine Exs_cons (Ex_assign (Ev_callK C.kin (Ev_global C.top G₂ rfl ⟨_, rfl, K₂, Evs_cons (Ev_subtup (Ev_sub (Ev_nodes C.kin c (Ev_local (hS3.get rfl) rfl ⟨x, d, nl, m, nodes, rfl, aD _ _, Ev_local rfl rfl ⟨nl, _, k, .tup [.int l, .int r], rfl, rfl, (aD _ _).list, ⟨by omega, by omega, .inl ⟨by omega, hnd⟩⟩, Ev_int ?_⟩⟩)))) ⟩)) (.inl rfl))
        refine ⟨_, 1, .int r, rfl, rfl, by decide, by decide, rfl, Evs_nil (variable_of_spec C.top X₂ ?_)⟩
        have fin : (σD.set A (.list (((clAV cs ++ [.tup [.int (-((k : Int) + 1)), .int (varOf l)]]) ++ [.tup [.int (-((k : Int) + 1)), .int (varOf r)]]) ++ [.tup [.int ((k : Int) + 1), .int (-varOf l), .int (-varOf r)]]))).set V (.list ws) = (σD.set A (.list (clAV (cs ++ ndCl nodes k)))).set V (.list ws) := by
          unfold clAV ndCl
          rw [if_neg hk0, hlr, List.map_append]
          simp
        have hcl' : (clAV cs).length ≤ 3 * ks.length := by unfold clAV; rw [List.length_map]; omega
        refine Exs_cons (Ex_append (pl := _) C.kin (Ev_local (hS4.get rfl) rfl ⟨A, _, rfl, gA _ _, Ev_tuple (Evs_cons (Ev_un (Ev_local rfl rfl (Un_neg ?_))))⟩))
        refine Evs_cons (Ev_local rfl rfl (Evs_nil ⟨Nat.le_of_ble_eq_true rfl, _, gA _ _, by rw [sizeLine_eq]; omega, ?_⟩))
        rw [AS.swap _ hAV]
        refine Exs_cons (Ex_append (pl := _) C.kin (Ev_local (hS4.get rfl) rfl ⟨A, _, rfl, gA _ _, Ev_tuple (Evs_cons (Ev_un (Ev_local rfl rfl (Un_neg ?_))))⟩))
        refine Evs_cons (Ev_local rfl rfl (Evs_nil ⟨Nat.le_of_ble_eq_true rfl, _, gA _ _, by rw [sizeLine_eq, List.length_append, List.length_singleton]; omega, ?_⟩))
        rw [AS.swap _ hAV]
        refine Exs_cons (Ex_append (pl := _) C.kin (Ev_local (hS4.get rfl) rfl ⟨A, _, rfl, gA _ _, Ev_tuple (Evs_cons (Ev_local rfl rfl ?_))⟩))
        refine Evs_cons (Ev_un (Ev_local rfl rfl (Un_neg (Evs_cons (Ev_un (Ev_local rfl rfl (Un_neg ?_)))))))
        refine Evs_nil ⟨Nat.le_of_ble_eq_true rfl, _, gA _ _, by rw [sizeLine_eq, List.length_append, List.length_append, List.length_singleton, List.length_singleton]; omega, ?_⟩
        rw [AS.swap _ hAV]
        refine Exs_nil (Exs_nil (Exs_nil (kQ _ _ _ ⟨?_, hS4⟩)))
        rw [e1, e3]
        exact fin
  · rintro ρ' σ' ⟨rfl, hS⟩
    rw [List.length_map, List.take_length]
    refine Exs_cons (Ex_ret (Ev_tuple (Evs_cons (Ev_local (hS.get rfl) rfl (Evs_cons (Ev_local (hS.get rfl) rfl (Evs_nil ⟨Nat.le_of_ble_eq_true rfl, ?_⟩)))))))
    refine ⟨_, ?_, h A V hAV hA hV hA0 hV0⟩
    rw [← hσD, ← hsD]
    exact AS.le_set ((AS.set_ne _ _ (Ne.symm hVD)).trans ((AS.set_ne _ _ (Ne.symm hAD)).trans hD))
end
local macro_rules | `(tactic| walk_at "m L") => `(tactic| first
  | rfl
  | assumption
  | (refine' Rho.skip ?hz (by rfl); (case hz => walk_at "m L"))
  | (refine' Same.get (by assumption) ?hz (by rfl); (case hz => walk_at "m L"))
  | (refine' inner_get ?hz (by rfl); (case hz => walk_at "m L")))
local macro_rules | `(tactic| walk_at "m H") => `(tactic| first | exact Or.inl rfl | exact Or.inr ⟨rfl, rfl⟩)
local macro_rules | `(tactic| walk_at "m G") => `(tactic| first | exact Cx.nlen (by assumption) | exact Cx.nrange (by assumption) | exact Cx.nabs (by assumption) | exact Cx.nmin (by assumption) | exact Cx.nsum (by assumption) | exact Cx.nlist (by assumption) | exact Cx.ntuple (by assumption) | exact Cx.nint (by assumption))
local macro_rules | `(tactic| walk_at "m Ev") => `(tactic| first
  | with_reducible refine Ev_int ?_
  | with_reducible refine Ev_str ?_
  | with_reducible refine Ev_bool ?_
  | with_reducible refine Ev_none ?_
  | ((with_reducible refine' Ev_local ?hv ?hx ?_ ?hd); (case hd => decide); (case hx => rfl); (case hv => walk_at "m L"))
  | ((with_reducible refine' Ev_cell ?hv ?hx ?hc ?_ ?hd); (case hd => decide); (case hx => rfl); (case hc => rfl); (case hv => walk_at "m L"))
  | ((with_reducible refine' Ev_cmp ?_ ?hm); (case hm => with_unfolding_all rfl))
  | with_reducible refine Ev_un ?_
  | with_reducible refine Ev_ifexp ?_
  | with_reducible refine Ev_one ?_
  | with_reducible refine Ev_and ?_
  | with_reducible refine Ev_or ?_
  | with_reducible refine Ev_fstr ?_
  | with_reducible refine Ev_fmt ?_
  | with_reducible refine Ev_bin ?_
  | ((with_reducible refine' Ev_callv (Ev_builtin (Cx.top (by assumption)) ?hn ?hb ?hg ⟨_, ?he, ?hk, ?_⟩ ?h1 ?hd) ?hc ?hs ?hp); (case hn => walk_at "m G"); (case hb => rfl); (case hg => rfl); (case he => rfl); (case hk => rfl); (case h1 => decide); (case hd => decide); (case hc => rfl); (case hs => rfl); (case hp => rfl)))
local macro_rules | `(tactic| walk_at "m Tr") => `(tactic| first
  | ((with_reducible refine' Tr_cmp ?_ ?hm); (case hm => with_unfolding_all rfl))
  | with_reducible refine Tr_not ?_
  | with_reducible refine Tr_and_nil ?_
  | with_reducible refine Tr_or_nil ?_
  | with_reducible refine Tr_and ?_
  | with_reducible refine Tr_or ?_
  | ((with_reducible refine' Tr_plain ?_ ?hm); (case hm => rfl)))
local macro_rules | `(tactic| walk_at "m Exs") => `(tactic| first
  | with_reducible refine Exs_nil ?_
  | ((with_reducible refine' Exs_cons (Ex_assign ?_ ?hh ?hm)); (case hh => walk_at "m H"); (case hm => rfl))
  | with_reducible refine Exs_cons (Ex_if ?_)
  | with_reducible refine Exs_cons (Ex_ret ?_)
  | with_reducible refine Exs_cons (Ex_continue ?_))
local macro_rules | `(tactic| walk_at "m Cmp") => `(tactic| first
  | with_reducible refine Cmp_ieq ?_
  | with_reducible refine Cmp_ine ?_
  | with_reducible refine Cmp_ilt ?_
  | with_reducible refine Cmp_igt ?_
  | with_reducible refine Cmp_ige ?_
  | with_reducible refine Cmp_beq ?_
  | with_reducible refine Cmp_bne ?_
  | with_reducible refine Cmp_seq ?_
  | with_reducible refine Cmp_sne ?_
  | with_reducible refine Cmp_slt ?_
  | with_reducible refine Cmp_sgt ?_)
local macro_rules | `(tactic| walk_at "m Bin") => `(tactic| first
  | with_reducible refine Bin_add ?_
  | with_reducible refine Bin_sub ?_
  | with_reducible refine Bin_xor ?_
  | with_reducible refine Bin_and ?_
  | ((with_reducible refine' Bin_mod ?ha ?_); (case ha => decide))
  | ((with_reducible refine' Bin_fdiv ?ha ?hb ?_); (case ha => decide); (case hb => decide))
  | ((with_reducible refine' Bin_shr ?ha ?_); (case ha => decide)))
local macro_rules | `(tactic| walk_at "m E") => `(tactic| first
  | ((with_reducible show Ev _ _ _ _ _ _ _ _ _); walk_at "m Ev")
  | ((with_reducible show Evs _ _ _ _ _ _ _ _ _); first | ((with_reducible refine' Evs_cons ?_ ?he); (case he => rfl)) | with_reducible refine Evs_nil ?_)
  | ((with_reducible show Exs _ _ _ _ _ _ _ _ _); walk_at "m Exs")
  | ((with_reducible show Cmp _ _ _ _ _ _ _ _ _); walk_at "m Cmp")
  | ((with_reducible show Tr _ _ _ _ _ _ _ _ _); walk_at "m Tr")
  | ((with_reducible show Bin _ _ _ _ _ _ _ _ _); walk_at "m Bin")
  | ((with_reducible show Truthy _ _ _ _ _ _ _); with_reducible refine Truthy_bool ?_)
  | ((with_reducible show Un _ _ _ _ _ _ _ _); first | with_reducible refine Un_neg ?_ | with_reducible refine Un_not ?_)
  | ((with_reducible show Fs _ _ _ _ _ _ _ _ _ _); first | ((with_reducible refine' Fs_cons ?_ ?he); (case he => rfl)) | with_reducible refine Fs_nil ?_))

-- Pr5
section
variable {prog : Program} {w : World} {h₀ : Heap} {n : Nat} {σ : AS} {mg mb : Str → Option Value} {K : Frag} {fs : FA} {env : Env} {ρ : Rho}

noncomputable def diffL (l r o : Int) : List (List Int) := [[-o, l, r], [-o, -l, -r], [o, -l, r], [o, l, -r]]

theorem differ_spec {f : Addr} (T : Top0 h₀ mg mb) (X : Fn h₀ f (stAt 8)) {l r o : Int} {Q : AV → AS → Prop} (h : ∀ D, σ D = none → h₀.get? D = none → Q (.obj D) (σ.set D (.list (clAV (diffL l r o))))) :
    Cl prog w h₀ (n + 1) σ (.raw (.ref f)) [.int l, .int r, .int o] Q := by
  refine Cl_def (names := ["left", "right", "out"]) T X ?_ ?_ ?_
  · intro _ _ _ _ _ _ _ vals hl
    match vals, hl with
    | [a, b, c], _ => rfl
  · rfl
  intro qual cdv L hL hL0
  have s3 : (3 : Nat) ≤ sizeLine := Nat.le_of_ble_eq_true rfl
  have s4 : (4 : Nat) ≤ sizeLine := Nat.le_of_ble_eq_true rfl
  refine Exs_cons (Ex_ret (Ev_list ?_))
  refine Evs_cons (Ev_tuple ?_)
  repeat walk_at "m E"
  refine ⟨s3, Evs_cons (Ev_tuple ?_)⟩
  repeat walk_at "m E"
  refine ⟨s3, Evs_cons (Ev_tuple ?_)⟩
  repeat walk_at "m E"
  refine ⟨s3, Evs_cons (Ev_tuple ?_)⟩
  repeat walk_at "m E"
  refine ⟨s3, Evs_nil ⟨s4, h⟩⟩

/-! words of numbers -/
noncomputable def intS (i : Int) : Str := Str.ofString (toString i)
noncomputable def digS (i : Int) : Str := if Txt.startswith (intS i) (Str.ofString "-") then Txt.slice (intS i) (some 1) none else intS i
noncomputable def okC (c : Nat) : Bool := c == 45 || (decide (48 ≤ c) && decide (c ≤ 57))
theorem okC_of {c : Nat} (h : okC c = true) : Unicode.isSpace c = false ∧ c ≠ 10 := by
  unfold okC at h
  simp only [Bool.or_eq_true, beq_iff_eq, Bool.and_eq_true, decide_eq_true_eq] at h
  exact ⟨KXs.no_space c (by omega) (by omega), by omega⟩
noncomputable def okI (i : Int) : Bool :=
  decide ((intS i).length ≤ 3) && !(digS i == Str.ofString "") && decide ((digS i).length ≤ 18) && (digS i).cps.toList.all (fun c => decide (48 ≤ c) && decide (c ≤ 57))
    && (intS i).cps.toList.all okC && !(intS i == Str.ofString "c") && !(intS i == Str.ofString "p") && !(intS i).cps.toList.isEmpty
theorem okI_all : ∀ k : Fin 51, okI ((k.val : Int) - 10) = true := by decide +kernel
theorem okI_neg : ∀ k : Fin 10, PySem.intText? (intS ((k.val : Int) - 10)) = some ((k.val : Int) - 10) := by decide +kernel
structure OkI (i : Int) : Prop where
  len : (intS i).length ≤ 3
  ne : (digS i == Str.ofString "") = false
  dlen : (digS i).length ≤ 18
  dig : ∀ c ∈ (digS i).cps.toList, 48 ≤ c ∧ c ≤ 57
  read : PySem.intText? (intS i) = some i
  plain : ∀ c ∈ (intS i).cps.toList, Unicode.isSpace c = false ∧ c ≠ 10
  nc : (intS i == Str.ofString "c") = false
  np : (intS i == Str.ofString "p") = false
  some' : (intS i).cps.toList ≠ []
  log : i.natAbs.log2 < 1920
theorem okI_to {i : Int} (h : -10 ≤ i) (h' : i ≤ 40) : OkI i := by
  have := okI_all ⟨(i + 10).toNat, by omega⟩
  have e : (((i + 10).toNat : Nat) : Int) - 10 = i := by omega
  rw [e] at this
  unfold okI at this
  simp only [Bool.and_eq_true, decide_eq_true_eq, Bool.not_eq_true', List.all_eq_true] at this
  obtain ⟨⟨⟨⟨⟨⟨⟨h1, h2⟩, h3⟩, h4⟩, h6⟩, h7⟩, h8⟩, h9⟩ := this
  refine ⟨h1, h2, h3, h4, ?_, fun c hc => okC_of (h6 c hc), h7, h8, fun e => by rw [e] at h9; simp at h9, ?_⟩
  · by_cases q : 0 ≤ i
    · exact KIN.num_reads q (by omega)
    · have := okI_neg ⟨(i + 10).toNat, by omega⟩
      rw [e] at this
      exact this
  · by_cases q : i.natAbs = 0
    · rw [q]; decide
    · exact (Nat.log2_lt q).mpr (Nat.lt_of_lt_of_le (show i.natAbs < 2 ^ 6 by omega) (Nat.pow_le_pow_right (by decide) (Nat.le_of_ble_eq_true rfl)))

theorem whole_word_spec (C : Cx h₀ mg mb K fs) {f : Addr} (X : Fn h₀ f (stAt 11)) {i row : Int} {Q : AV → AS → Prop} (hi : OkI i) (h : Q (.int i) σ) : Cl prog w h₀ (n + 1) σ (.raw (.ref f)) [.str (intS i), .int row] Q := by
  have X' : FnAt h₀ f (dArgs (stAt 11)) (dBody (stAt 11)) (dScope (stAt 11)) := X
  conv at X' => { arg 3; whnf }
  conv at X' => { arg 4; whnf }
  conv at X' => { arg 5; whnf }
  refine Cl_def (names := ["word", "row"]) C.top X' ?_ ?_ ?_
  · intro _ _ _ _ _ _ _ vals hl
    match vals, hl with
    | [a, b], _ => rfl
  · rfl
  intro qual cdv L hL hL0
  have hlen : (intS i).length ≤ sizeLine := by have := hi.len; rw [sizeLine_eq]; omega
  refine Exs_cons (Ex_assign (Ev.mono (Q := fun v σ' => v = .str (digS i) ∧ σ' = σ) ?_ ?_) (.inl rfl))
  · refine Ev_ifexp (Tr_plain (Ev_mcall (pl := _) C.kin (Ev_local rfl rfl (Meth_startswith ⟨.inl rfl, ?_⟩)) rfl))
    repeat walk_at "m E"
    refine Cl_startswith ?_
    repeat walk_at "m E"
    unfold digS
    cases hq : Txt.startswith (intS i) (Str.ofString "-") with
    | true =>
      rw [if_pos rfl, if_pos rfl]
      refine Ev_cutstr ?_
      repeat walk_at "m E"
      exact ⟨_, _, rfl, rfl, hlen, rfl, rfl⟩
    | false =>
      rw [if_neg (by decide), if_neg (by decide)]
      exact Ev_local rfl rfl ⟨rfl, rfl⟩
  · rintro v σ₁ ⟨rfl, rfl⟩
    refine Exs_cons (Ex_if ?_)
    repeat walk_at "m E"
    simp only [hi.ne, Bool.false_eq_true, if_false]
    repeat walk_at "m E"
    have hdl := hi.dlen
    refine Cl_lenstr (by omega) ?_
    repeat walk_at "m E"
    rw [decide_eq_false (by omega)]
    simp only [Bool.false_eq_true, if_false]
    repeat walk_at "m E"
    simp only [Bool.false_eq_true, if_false]
    repeat walk_at "m E"
    refine Exs_cons (Ex_for (fun j vs ρ' σ' => σ' = σ₁ ∧ Same ["char"] ((bindA ["word", "row"] [.str (intS i), .int row] fun _ => none).set "digits" (.str (digS i))) ρ')
      (EvIt_str (Ev_local rfl rfl ⟨_, rfl, ⟨rfl, .refl⟩, fun _ _ _ _ _ => trivial, ?_, ?_⟩)))
    · rintro j v ρ' σ' hv ⟨rfl, hS⟩
      obtain ⟨c, hc, rfl⟩ : ∃ c, (digS i).cps.toList[j]? = some c ∧ v = .str ⟨#[c]⟩ := by
        simp only [List.getElem?_map, Option.map_eq_some_iff] at hv
        obtain ⟨l, h1, h2⟩ := hv; exact ⟨l, h1, h2.symm⟩
      obtain ⟨c1, c2⟩ := hi.dig c (List.mem_of_getElem? hc)
      refine As_name (.inl rfl) (Exs_cons (Ex_if ?_))
      repeat walk_at "m E"
      have e1 : decide ((⟨#[c]⟩ : Str).cps.toList < (Str.ofString "0").cps.toList) = false := decide_eq_false (by
        show ¬ (([c] : List Nat) < [48])
        simp [List.cons_lt_cons_iff]; omega)
      have e2 : decide ((Str.ofString "9").cps.toList < (⟨#[c]⟩ : Str).cps.toList) = false := decide_eq_false (by
        show ¬ (([57] : List Nat) < [c])
        simp [List.cons_lt_cons_iff]; omega)
      rw [e1]
      simp only [Bool.false_eq_true, if_false]
      repeat walk_at "m E"
      rw [e2]
      simp only [Bool.false_eq_true, if_false]
      repeat walk_at "m E"
      simp only [Bool.false_eq_true, if_false]
      repeat walk_at "m E"
      exact ⟨rfl, hS.set⟩
    · rintro ρ' σ' ⟨rfl, hS⟩
      repeat walk_at "m E"
      have := hi.len
      exact Cl_inttext hi.read (by omega) h
end
-- Pl1
noncomputable def cd (x : Str) : List Nat := x.cps.toList
theorem cd_append (x y : Str) : cd (x ++ y) = cd x ++ cd y := by unfold cd; rw [Str.cps_append, Array.toList_append]
theorem cd_ext {x y : Str} (h : cd x = cd y) : x = y := Str.ext' (Array.toList_inj.mp h)

/-! lines -/
noncomputable def jn : List (List Nat) → List Nat
  | [] => []
  | [a] => a
  | a :: r => a ++ 10 :: jn r
theorem jn_cons (a : List Nat) {r : List (List Nat)} (h : r ≠ []) : jn (a :: r) = a ++ 10 :: jn r := by
  cases r with
  | nil => exact absurd rfl h
  | cons b r => rfl
theorem jn_join : ∀ parts : List Str, cd (Str.join ⟨#[10]⟩ parts) = jn (parts.map cd)
  | [] => rfl
  | [a] => rfl
  | a :: b :: r => by
    show cd (a ++ ⟨#[10]⟩ ++ Str.join ⟨#[10]⟩ (b :: r)) = cd a ++ 10 :: jn ((b :: r).map cd)
    rw [cd_append, cd_append, jn_join (b :: r), List.append_assoc]; rfl
theorem first10 : ∀ {a b r r' : List Nat}, 10 ∉ a → 10 ∉ b → a ++ 10 :: r = b ++ 10 :: r' → a = b ∧ r = r'
  | [], [], _, _, _, _, h => ⟨rfl, by simpa using h⟩
  | [], c :: b, _, _, _, hb, h => by
    simp only [List.nil_append, List.cons_append, List.cons.injEq] at h
    exact absurd (h.1 ▸ List.mem_cons_self ..) hb
  | c :: a, [], _, _, ha, _, h => by
    simp only [List.nil_append, List.cons_append, List.cons.injEq] at h
    exact absurd (h.1 ▸ List.mem_cons_self ..) ha
  | c :: a, d :: b, r, r', ha, hb, h => by
    simp only [List.cons_append, List.cons.injEq] at h
    obtain ⟨e1, e2⟩ := first10 (fun q => ha (List.mem_cons_of_mem _ q)) (fun q => hb (List.mem_cons_of_mem _ q)) h.2
    exact ⟨by rw [h.1, e1], e2⟩
theorem no10 {a b r : List Nat} (ha : 10 ∉ a) : a ≠ b ++ 10 :: r := fun e => ha (e ▸ List.mem_append_right _ (List.mem_cons_self ..))
theorem jn_inj : ∀ {A B : List (List Nat)}, A ≠ [] → B ≠ [] → (∀ a ∈ A, 10 ∉ a) → (∀ b ∈ B, 10 ∉ b) → jn A = jn B → A = B
  | [], _, h, _, _, _, _ => absurd rfl h
  | _, [], _, h, _, _, _ => absurd rfl h
  | [a], [b], _, _, _, _, h => by rw [show a = b from h]
  | [a], b :: c :: B, _, _, hA, _, h => absurd h (no10 (hA a (List.mem_cons_self ..)))
  | a :: c :: A, [b], _, _, _, hB, h => absurd h.symm (no10 (hB b (List.mem_cons_self ..)))
  | a :: c :: A, b :: d :: B, _, _, hA, hB, h => by
    obtain ⟨e1, e2⟩ := first10 (hA a (List.mem_cons_self ..)) (hB b (List.mem_cons_self ..)) h
    rw [e1, jn_inj (A := c :: A) (B := d :: B) (by simp) (by simp) (fun x hx => hA x (List.mem_cons_of_mem _ hx)) (fun x hx => hB x (List.mem_cons_of_mem _ hx)) e2]
theorem jn_lines : ∀ L : List (List Nat), jn (L ++ [[]]) = L.flatMap fun l => l ++ [10]
  | [] => rfl
  | a :: L => by
    rw [List.cons_append, jn_cons a (by simp), jn_lines L, List.flatMap_cons]; simp
theorem split_ne (x : Str) (y : Str) : Txt.split x y ≠ [] := by
  unfold Txt.split
  split
  · simp
  · split
    · simp
    · intro e
      have := congrArg List.length e
      rw [len_partsBetween] at this
      simp at this
theorem split_lines {x : Str} {L : List (List Nat)} (h : cd x = L.flatMap fun l => l ++ [10]) (hf : ∀ l ∈ L, 10 ∉ l) : (Txt.split x ⟨#[10]⟩).map cd = L ++ [[]] := by
  refine jn_inj (by simp [split_ne]) (by simp) (fun a ha => ?_) (fun b hb => ?_) ?_
  · obtain ⟨p, hp, rfl⟩ := List.mem_map.mp ha
    exact StrLaws.split_free x 10 p hp
  · rcases List.mem_append.mp hb with q | q
    · exact hf b q
    · rw [List.mem_singleton.mp q]; simp
  · rw [← jn_join, StrLaws.join_split, jn_lines, h]
/-! words -/
noncomputable def tx : List (List Nat) → List Nat
  | [] => []
  | [a] => a
  | a :: r => a ++ 32 :: tx r
theorem tx_cons (a : List Nat) {r : List (List Nat)} (h : r ≠ []) : tx (a :: r) = a ++ 32 :: tx r := by
  cases r with
  | nil => exact absurd rfl h
  | cons b r => rfl

abbrev GoSt := Array (Nat × Nat) × Option Nat
noncomputable def goStep (cur : Nat) (st : GoSt) (c : Nat) : GoSt :=
  match st.2, Unicode.isSpace c with
  | some b, true => (st.1.push (b, cur), none)
  | none, false => (st.1, some cur)
  | _, _ => st
noncomputable def go (cur : Nat) (st : GoSt) : List Nat → GoSt
  | [] => st
  | c :: r => go (cur + 1) (goStep cur st c) r
theorem go_append (cur : Nat) (st : GoSt) : ∀ a b : List Nat, go cur st (a ++ b) = go (cur + a.length) (go cur st a) b
  | [], b => rfl
  | c :: a, b => by
    show go (cur + 1) _ (a ++ b) = _
    rw [go_append (cur + 1) _ a b, List.length_cons, show cur + 1 + a.length = cur + (a.length + 1) from by omega]
    rfl
theorem go_run (s : Str) (limit : Nat) (hl : s.length < limit) : ∀ (suf pre : List Nat) (st : GoSt), cd s = pre ++ suf → st.1.size ≤ pre.length →
    (forIn (List.range' pre.length suf.length) ((none, st.1, st.2) : StrLaws.SwSt) (StrLaws.swBody s limit)).run = (none, (go pre.length st suf).1, (go pre.length st suf).2)
  | [], pre, st, h, hz => rfl
  | c :: suf, pre, st, h, hz => by
    have hlen : s.length = pre.length + (suf.length + 1) := by
      have := congrArg List.length h
      rw [List.length_append, List.length_cons] at this
      rw [← this]; exact (Array.length_toList).symm
    rw [List.length_cons, List.range'_succ, List.forIn_cons]
    have hc : s.cps.getD pre.length 0 = c := by
      have e : s.cps = (pre ++ c :: suf).toArray := by rw [← h]; rfl
      rw [e]; simp
    have hsz : ¬ ((st.1.size == limit) = true) := by rw [beq_iff_eq]; omega
    have ih := fun st' (hz' : (st' : GoSt).1.size ≤ (pre ++ [c]).length) => go_run s limit hl suf (pre ++ [c]) st' (by rw [h]; simp) hz'
    rw [List.length_append, List.length_singleton] at ih
    unfold StrLaws.swBody
    simp only [hsz, hc]
    show _ = (none, (go (pre.length + 1) (goStep pre.length st c) suf).1, (go (pre.length + 1) (goStep pre.length st c) suf).2)
    obtain ⟨ws, b⟩ := st
    unfold goStep
    cases b with
    | none =>
      cases hsp : Unicode.isSpace c
      · exact ih (ws, some pre.length) (Nat.le_succ_of_le hz)
      · exact ih (ws, none) (Nat.le_succ_of_le hz)
    | some b =>
      cases hsp : Unicode.isSpace c
      · exact ih (ws, some b) (Nat.le_succ_of_le hz)
      · exact ih (ws.push (b, pre.length), none) (by rw [Array.size_push]; exact Nat.succ_le_succ hz)
noncomputable def cutOf (l : List Nat) (p : Nat × Nat) : List Nat := (l.drop p.1).take (p.2 - p.1)
theorem go_word (cur : Nat) (ws : Array (Nat × Nat)) (b : Nat) : ∀ a : List Nat, (∀ c ∈ a, Unicode.isSpace c = false) → go cur (ws, some b) a = (ws, some b)
  | [], _ => rfl
  | c :: a, h => by
    show go (cur + 1) (goStep cur (ws, some b) c) a = _
    have : goStep cur (ws, some b) c = (ws, some b) := by unfold goStep; rw [h c (List.mem_cons_self ..)]
    rw [this]
    exact go_word (cur + 1) ws b a fun d hd => h d (List.mem_cons_of_mem _ hd)
theorem go_word0 (cur : Nat) (ws : Array (Nat × Nat)) {a : List Nat} (ha : a ≠ []) (h : ∀ c ∈ a, Unicode.isSpace c = false) : go cur (ws, none) a = (ws, some cur) := by
  cases a with
  | nil => exact absurd rfl ha
  | cons c a =>
    show go (cur + 1) (goStep cur (ws, none) c) a = _
    have : goStep cur (ws, none) c = (ws, some cur) := by unfold goStep; rw [h c (List.mem_cons_self ..)]
    rw [this]
    exact go_word (cur + 1) ws cur a fun d hd => h d (List.mem_cons_of_mem _ hd)
theorem cut_mid (pre a suf : List Nat) : cutOf (pre ++ (a ++ suf)) (pre.length, pre.length + a.length) = a := by
  unfold cutOf
  simp
theorem go_words (s : Str) : ∀ (ws : List (List Nat)) (pre : List Nat) (acc : Array (Nat × Nat)), ws ≠ [] → (∀ a ∈ ws, a ≠ [] ∧ ∀ c ∈ a, Unicode.isSpace c = false) → cd s = pre ++ tx ws →
    ∃ (acc' : Array (Nat × Nat)) (b : Nat), go pre.length (acc, none) (tx ws) = (acc', some b) ∧ (acc'.push (b, s.length)).toList.map (cutOf (cd s)) = acc.toList.map (cutOf (cd s)) ++ ws
  | [], _, _, h, _, _ => absurd rfl h
  | [a], pre, acc, _, hw, hs => by
    obtain ⟨ha, hc⟩ := hw a (List.mem_cons_self ..)
    refine ⟨acc, pre.length, go_word0 _ _ ha hc, ?_⟩
    have hlen : s.length = pre.length + a.length := by
      have := congrArg List.length hs
      rw [List.length_append] at this
      rw [show s.length = (cd s).length from (Array.length_toList).symm, this]; rfl
    rw [Array.toList_push, List.map_append, hlen, hs]
    have := cut_mid pre a []
    rw [List.append_nil] at this
    rw [List.map_singleton, show tx [a] = a from rfl, this]
  | a :: b :: r, pre, acc, _, hw, hs => by
    obtain ⟨ha, hc⟩ := hw a (List.mem_cons_self ..)
    have ht : tx (a :: b :: r) = a ++ 32 :: tx (b :: r) := rfl
    rw [ht] at hs ⊢
    rw [go_append, go_word0 _ _ ha hc]
    have e1 : go (pre.length + a.length) (acc, some pre.length) (32 :: tx (b :: r)) = go (pre ++ a ++ [32]).length (acc.push (pre.length, pre.length + a.length), none) (tx (b :: r)) := by
      show go (pre.length + a.length + 1) (goStep (pre.length + a.length) (acc, some pre.length) 32) (tx (b :: r)) = _
      have : goStep (pre.length + a.length) (acc, some pre.length) 32 = (acc.push (pre.length, pre.length + a.length), none) := by
        unfold goStep
        rw [show Unicode.isSpace 32 = true from by decide +kernel]
      rw [this, List.length_append, List.length_append, List.length_singleton]
    rw [e1]
    obtain ⟨acc', k, h1, h2⟩ := go_words s (b :: r) (pre ++ a ++ [32]) (acc.push (pre.length, pre.length + a.length)) (by simp) (fun x hx => hw x (List.mem_cons_of_mem _ hx)) (by rw [hs]; simp)
    refine ⟨acc', k, h1, ?_⟩
    rw [h2, Array.toList_push, List.map_append, List.map_singleton, hs, cut_mid pre a (32 :: tx (b :: r))]
    simp
theorem words_of {x : Str} {ws : List (List Nat)} (hne : ws ≠ []) (hw : ∀ a ∈ ws, a ≠ [] ∧ ∀ c ∈ a, Unicode.isSpace c = false) (h : cd x = tx ws) : (Txt.words x).map cd = ws := by
  have run := go_run x (x.length + 1) (Nat.lt_succ_self _) (cd x) [] (#[], none) rfl (Nat.le_refl _)
  obtain ⟨acc', b, h1, h2⟩ := go_words x ws [] #[] hne hw h
  have hl : (cd x).length = x.length := Array.length_toList
  have e : Builtin.Str.spaceWords x (x.length + 1) = (acc'.push (b, x.length)).toList := by
    rw [StrLaws.sw_eq]
    rw [hl] at run
    rw [show List.range' 0 x.length = List.range' ([] : List Nat).length x.length from rfl, run, h, h1]
    rfl
  have sub : ∀ i j, cd (Builtin.Str.strSub x i j) = cutOf (cd x) (i, j) := fun i j => StrLaws.strSub_toList x i j
  have e2 : (PySem.wordsOf x).map cd = ws := by
    unfold PySem.wordsOf
    rw [e, List.map_map]
    rw [show (cd ∘ fun (p : Nat × Nat) => Builtin.Str.strSub x p.1 p.2) = cutOf (cd x) from funext fun p => sub p.1 p.2, h2]
    simp
  unfold Txt.words
  split
  · rename_i q
    have q' := eq_of_beq q
    rw [← e2]
    unfold PySem.wordsOf
    rw [q']
    simp only [List.map_cons, List.map_nil]
    rw [sub]
    unfold cutOf
    simp only [List.drop_zero, Nat.sub_zero]
    rw [← hl, List.take_length]
  · exact e2
theorem words_empty : Txt.words (Str.ofString "") = [] := by decide +kernel
theorem words_len (x : Str) : (Builtin.Str.spaceWords x (x.length + 1)).length ≤ x.length + 1 := by
  have := (StrLaws.sw_weight x).1
  have := StrLaws.len_le_wsum (Builtin.Str.spaceWords x (x.length + 1))
  omega
-- Pl2
noncomputable def headS (T C : Int) : Str := ((((Str.empty ++ Str.ofString "p cnf ") ++ intS T) ++ Str.ofString " ") ++ intS C) ++ Str.ofString "\n"
noncomputable def litS (l : Int) : Str := (Str.empty ++ intS l) ++ Str.ofString " "
noncomputable def rowS (c : List Int) : Str := Txt.join (Str.ofString "") (c.map litS) ++ Str.ofString "0\n"
noncomputable def textS (T : Int) (cs : List (List Int)) : Str := Txt.join (Str.ofString "") (headS T cs.length :: cs.map rowS)

theorem cd_join : ∀ ts : List Str, cd (Txt.join (Str.ofString "") ts) = ts.flatMap cd := fun ts => by
  show cd (Builtin.Str.glued (Str.ofString "") ts) = _
  rw [StrLaws.glued_eq_join]
  induction ts with
  | nil => rfl
  | cons a r ih =>
    cases r with
    | nil => simp [Str.join]
    | cons b r =>
      show cd (a ++ Str.ofString "" ++ Str.join (Str.ofString "") (b :: r)) = _
      rw [cd_append, cd_append, ih]
      have : cd (Str.ofString "") = [] := rfl
      rw [this, List.append_nil]; simp only [List.flatMap_cons]
noncomputable def headW (T C : Int) : List (List Nat) := [[112], [99, 110, 102], cd (intS T), cd (intS C)]
noncomputable def rowW (c : List Int) : List (List Nat) := (c.map fun l => cd (intS l)) ++ [[48]]
theorem rowW_ne (c : List Int) : rowW c ≠ [] := by simp [rowW]
theorem cd_head (T C : Int) : cd (headS T C) = tx (headW T C) ++ [10] := by
  unfold headS
  simp only [cd_append]
  have e1 : cd Str.empty = [] := rfl
  have e2 : cd (Str.ofString "p cnf ") = [112, 32, 99, 110, 102, 32] := by decide +kernel
  have e3 : cd (Str.ofString " ") = [32] := by decide +kernel
  have e4 : cd (Str.ofString "\n") = [10] := by decide +kernel
  rw [e1, e2, e3, e4]
  simp [headW, tx]
theorem cd_row (c : List Int) : cd (rowS c) = tx (rowW c) ++ [10] := by
  unfold rowS
  have e4 : cd (Str.ofString "0\n") = [48, 10] := by decide +kernel
  rw [cd_append, cd_join, e4]
  induction c with
  | nil => rfl
  | cons l c ih =>
    have e : rowW (l :: c) = cd (intS l) :: rowW c := rfl
    rw [e, tx_cons _ (rowW_ne c), List.map_cons, List.flatMap_cons, List.append_assoc, ih]
    have e1 : cd (litS l) = cd (intS l) ++ [32] := by
      unfold litS
      rw [cd_append, cd_append]
      have e1 : cd Str.empty = [] := rfl
      have e3 : cd (Str.ofString " ") = [32] := by decide +kernel
      rw [e1, e3]; rfl
    rw [e1]; simp
theorem cd_text (T : Int) (cs : List (List Int)) : cd (textS T cs) = (tx (headW T cs.length) :: cs.map fun c => tx (rowW c)).flatMap fun l => l ++ [10] := by
  unfold textS
  rw [cd_join, List.flatMap_cons, List.flatMap_cons, cd_head]
  congr 1
  induction cs with
  | nil => rfl
  | cons c cs ih =>
    rw [List.map_cons, List.map_cons, List.flatMap_cons, List.flatMap_cons, cd_row, ih]

noncomputable def GoodC (cs : List (List Int)) : Prop := ∀ c ∈ cs, c.length ≤ 3 ∧ ∀ l ∈ c, -10 ≤ l ∧ l ≤ 10
theorem ok_word {i : Int} (h : OkI i) : cd (intS i) ≠ [] ∧ ∀ c ∈ cd (intS i), Unicode.isSpace c = false := ⟨h.some', fun c hc => (h.plain c hc).1⟩
theorem no10_tx : ∀ {ws : List (List Nat)}, (∀ a ∈ ws, 10 ∉ a) → 10 ∉ tx ws
  | [], _, h => nomatch h
  | [a], h, q => h a (List.mem_cons_self ..) q
  | a :: b :: r, h, q => by
    rcases List.mem_append.mp (show 10 ∈ a ++ 32 :: tx (b :: r) from q) with q | q
    · exact h a (List.mem_cons_self ..) q
    · rcases List.mem_cons.mp q with q | q
      · exact absurd q (by decide)
      · exact no10_tx (fun x hx => h x (List.mem_cons_of_mem _ hx)) q
theorem ok_no10 {i : Int} (h : OkI i) : 10 ∉ cd (intS i) := fun q => (h.plain 10 q).2 rfl
theorem head_no10 {T C : Int} (hT : OkI T) (hC : OkI C) : ∀ a ∈ headW T C, 10 ∉ a := by
  intro a ha
  simp only [headW, List.mem_cons, List.not_mem_nil, or_false] at ha
  rcases ha with rfl | rfl | rfl | rfl
  · decide
  · decide
  · exact ok_no10 hT
  · exact ok_no10 hC
theorem row_no10 {c : List Int} (h : ∀ l ∈ c, OkI l) : ∀ a ∈ rowW c, 10 ∉ a := by
  intro a ha
  rcases List.mem_append.mp ha with q | q
  · obtain ⟨l, hl, rfl⟩ := List.mem_map.mp q
    exact ok_no10 (h l hl)
  · rw [List.mem_singleton.mp q]; decide
theorem head_words {T C : Int} (hT : OkI T) (hC : OkI C) : ∀ a ∈ headW T C, a ≠ [] ∧ ∀ c ∈ a, Unicode.isSpace c = false := by
  intro a ha
  simp only [headW, List.mem_cons, List.not_mem_nil, or_false] at ha
  rcases ha with rfl | rfl | rfl | rfl
  · exact ⟨by decide, fun c hc => by rw [List.mem_singleton.mp hc]; decide +kernel⟩
  · refine ⟨by decide, fun c hc => KXs.no_space c ?_ ?_⟩ <;> simp only [List.mem_cons, List.not_mem_nil, or_false] at hc <;> omega
  · exact ok_word hT
  · exact ok_word hC
theorem row_words {c : List Int} (h : ∀ l ∈ c, OkI l) : ∀ a ∈ rowW c, a ≠ [] ∧ ∀ d ∈ a, Unicode.isSpace d = false := by
  intro a ha
  rcases List.mem_append.mp ha with q | q
  · obtain ⟨l, hl, rfl⟩ := List.mem_map.mp q
    exact ok_word (h l hl)
  · rw [List.mem_singleton.mp q]
    exact ⟨by decide, fun c hc => by rw [List.mem_singleton.mp hc]; decide +kernel⟩
theorem GoodC.ok {cs : List (List Int)} (h : GoodC cs) {c : List Int} (hc : c ∈ cs) : ∀ l ∈ c, OkI l := fun l hl => okI_to ((h c hc).2 l hl).1 (Int.le_trans ((h c hc).2 l hl).2 (by decide))

theorem map_cd {A : List Str} {B : List Str} (h : A.map cd = B.map cd) : A = B := by
  induction A generalizing B with
  | nil => cases B with
    | nil => rfl
    | cons b B => simp at h
  | cons a A ih => cases B with
    | nil => simp at h
    | cons b B =>
      simp only [List.map_cons, List.cons.injEq] at h
      rw [cd_ext h.1, ih h.2]

theorem lines_spec {T : Int} {cs : List (List Int)} (hT : OkI T) (hC : OkI cs.length) (hc : GoodC cs) :
    (Txt.split (textS T cs) (Str.ofString "\n")).length = cs.length + 2 ∧ ∀ i x, (Txt.split (textS T cs) (Str.ofString "\n"))[i]? = some x → x.length ≤ (textS T cs).length ∧
      ((i = 0 ∧ Txt.words x = [Str.ofString "p", Str.ofString "cnf", intS T, intS cs.length]) ∨ (∃ j c, i = j + 1 ∧ cs[j]? = some c ∧ Txt.words x = c.map intS ++ [Str.ofString "0"]) ∨ (i = cs.length + 1 ∧ Txt.words x = [])) := by
  have en : Str.ofString "\n" = ⟨#[10]⟩ := by decide +kernel
  rw [en]
  have hs := split_lines (cd_text T cs) (fun l hl => by
    rcases List.mem_cons.mp hl with rfl | q
    · exact no10_tx (head_no10 hT hC)
    · obtain ⟨c, hcm, rfl⟩ := List.mem_map.mp q
      exact no10_tx (row_no10 (hc.ok hcm)))
  generalize hL : Txt.split (textS T cs) ⟨#[10]⟩ = L at hs
  have hlen : L.length = cs.length + 2 := by
    have := congrArg List.length hs
    simpa using this
  refine ⟨hlen, fun i x hx => ?_⟩
  have hcd : ((tx (headW T cs.length) :: cs.map fun c => tx (rowW c)) ++ [[]])[i]? = some (cd x) := by
    rw [← hs, List.getElem?_map, hx]; rfl
  have hxl : (cd x).length = x.length := Array.length_toList
  have htl : (cd (textS T cs)).length = (textS T cs).length := Array.length_toList
  have hle : ∀ (M : List (List Nat)) (a : List Nat), a ∈ M → a.length ≤ (M.flatMap fun l => l ++ [10]).length := by
    intro M a ha
    induction M with
    | nil => cases ha
    | cons b M ih =>
      rw [List.flatMap_cons, List.length_append, List.length_append]
      rcases List.mem_cons.mp ha with rfl | q
      · omega
      · have := ih q; omega
  refine ⟨?_, ?_⟩
  · rw [← hxl, ← htl, cd_text]
    rcases List.mem_append.mp (List.mem_of_getElem? hcd) with q | q
    · exact hle _ _ q
    · rw [List.mem_singleton.mp q]; exact Nat.zero_le _
  · cases i with
    | zero =>
      left
      refine ⟨rfl, map_cd ?_⟩
      simp only [List.cons_append, List.getElem?_cons_zero, Option.some.injEq] at hcd
      rw [words_of (by simp [headW]) (head_words hT hC) hcd.symm]
      have e1 : cd (Str.ofString "p") = [112] := by decide +kernel
      have e2 : cd (Str.ofString "cnf") = [99, 110, 102] := by decide +kernel
      simp only [List.map_cons, List.map_nil, e1, e2]
      rfl
    | succ j =>
      right
      simp only [List.cons_append, List.getElem?_cons_succ] at hcd
      by_cases hj : j < cs.length
      · left
        rw [List.getElem?_append_left (by simpa using hj), List.getElem?_map] at hcd
        obtain ⟨c, hcj, e⟩ := Option.map_eq_some_iff.mp hcd
        refine ⟨j, c, rfl, hcj, map_cd ?_⟩
        rw [words_of (rowW_ne c) (row_words (hc.ok (List.mem_of_getElem? hcj))) e.symm]
        have e1 : cd (Str.ofString "0") = [48] := by decide +kernel
        simp [rowW, e1]
      · right
        have hi : j < cs.length + 1 := by
          have := (List.getElem?_eq_some_iff.mp hx).1
          omega
        have hj' : j = cs.length := by omega
        subst hj'
        rw [List.getElem?_append_right (by simp)] at hcd
        simp only [List.length_map, Nat.sub_self, List.getElem?_cons_zero, Option.some.injEq] at hcd
        have : x = Str.ofString "" := cd_ext hcd.symm
        rw [this]
        exact ⟨rfl, words_empty⟩

theorem join_ok {ts : List Str} {B : Nat} (hB : ∀ y ∈ ts, y.length ≤ B) (h : ts.length * B ≤ 16777216) : JoinOk (Str.ofString "") ts = true := by
  unfold JoinOk
  rw [Bool.not_eq_true']
  exact StrLaws.joinFits hB (by
    have : (Str.ofString "").length = 0 := rfl
    rw [this]; omega)
theorem lit_len {l : Int} (h : OkI l) : (litS l).length ≤ 4 := by
  unfold litS
  rw [Str.length_append, Str.length_append]
  have := h.len
  have e1 : Str.empty.length = 0 := rfl
  have e2 : (Str.ofString " ").length = 1 := by decide +kernel
  omega
theorem cd_len (x : Str) : x.length = (cd x).length := (Array.length_toList).symm
theorem flat_le {ts : List Str} {B : Nat} (hB : ∀ y ∈ ts, y.length ≤ B) : (ts.flatMap cd).length ≤ ts.length * B := by
  induction ts with
  | nil => simp
  | cons a r ih =>
    rw [List.flatMap_cons, List.length_append, List.length_cons, Nat.succ_mul]
    have := ih fun y hy => hB y (List.mem_cons_of_mem _ hy)
    have := hB a (List.mem_cons_self ..)
    have := cd_len a
    omega
theorem row_len {c : List Int} (h : ∀ l ∈ c, OkI l) (h3 : c.length ≤ 3) : (rowS c).length ≤ 14 := by
  unfold rowS
  rw [Str.length_append, cd_len (Txt.join _ _), cd_join]
  have := flat_le (ts := c.map litS) (B := 4) (fun y hy => by
    obtain ⟨l, hl, rfl⟩ := List.mem_map.mp hy
    exact lit_len (h l hl))
  rw [List.length_map] at this
  have e2 : (Str.ofString "0\n").length = 2 := by decide +kernel
  omega
theorem head_len {T C : Int} (hT : OkI T) (hC : OkI C) : (headS T C).length ≤ 14 := by
  unfold headS
  simp only [Str.length_append]
  have := hT.len
  have := hC.len
  have e1 : Str.empty.length = 0 := rfl
  have e2 : (Str.ofString " ").length = 1 := by decide +kernel
  have e3 : (Str.ofString "p cnf ").length = 6 := by decide +kernel
  have e4 : (Str.ofString "\n").length = 1 := by decide +kernel
  omega
theorem text_len {T : Int} {cs : List (List Int)} (hT : OkI T) (hC : OkI cs.length) (hc : GoodC cs) : (textS T cs).length ≤ (cs.length + 1) * 14 := by
  unfold textS
  rw [cd_len (Txt.join _ _), cd_join]
  have := flat_le (ts := headS T cs.length :: cs.map rowS) (B := 14) (fun y hy => by
    rcases List.mem_cons.mp hy with rfl | q
    · exact head_len hT hC
    · obtain ⟨c, hl, rfl⟩ := List.mem_map.mp q
      exact row_len (hc.ok hl) (hc c hl).1)
  rw [List.length_cons, List.length_map] at this
  exact this
-- Pr6
theorem AS.le_setr {σ σ' : AS} {a : Addr} {o : AO} (h : AS.le σ σ') (ha : σ a = none) : AS.le σ (σ'.set a o) := fun b p e => by
  rw [AS.set_ne _ _ (fun q => by rw [q, ha] at e; cases e)]
  exact h b p e
theorem AS.le_none {σ σ' : AS} {a : Addr} (h : AS.le σ σ') (ha : σ' a = none) : σ a = none := by
  cases e : σ a with
  | none => rfl
  | some o => rw [h a o e] at ha; cases ha

section
variable {prog : Program} {w : World} {h₀ : Heap} {n : Nat} {σ : AS} {mg mb : Str → Option Value} {K : Frag} {fs : FA} {env : Env} {ρ : Rho}

theorem Bin_addstr {x y : Str} {Q : AV → AS → Prop} (hz : x.length + y.length ≤ sizeLine) (h : Q (.str (x ++ y)) σ) : Bin prog w h₀ n σ .Add (.str x) (.str y) Q := fun A s a b ok rl r₁ r₂ => by
  cases r₁; cases r₂; exact PyProof.Rows.add_str (fun t' k => ⟨_, σ, toks_post rl _, .str _ _, h⟩) hz

theorem dimacs_text_spec (C : Cx h₀ mg mb K fs) {f : Addr} (X : Fn h₀ f (stAt 10)) {T : Int} {c : Addr} {cs : List (List Int)} {Q : AV → AS → Prop} (hT : OkI T) (hC : OkI cs.length) (hc : GoodC cs) (hn : cs.length ≤ 40) (ha : σ c = some (.list (clAV cs)))
    (h : Q (.str (textS T cs)) σ) : Cl prog w h₀ (n + 1) σ (.raw (.ref f)) [.int T, .obj c] Q := by
  have X' : FnAt h₀ f (dArgs (stAt 10)) (dBody (stAt 10)) (dScope (stAt 10)) := X
  conv at X' => { arg 3; whnf }
  conv at X' => { arg 4; whnf }
  conv at X' => { arg 5; whnf }
  refine Cl.forget (Cl_def (names := ["count", "clauses"]) C.top X' ?_ ?_ ?_)
  · intro _ _ _ _ _ _ _ vals hl
    match vals, hl with
    | [a, b], _ => rfl
  · rfl
  intro qual cdv L hL hL0
  have hlen : (clAV cs).length = cs.length := by unfold clAV; rw [List.length_map]
  have hTl := hT.len
  have hCl := hC.len
  have l1 : (Str.ofString "p cnf ").length = 6 := by decide +kernel
  have l2 : (Str.ofString " ").length = 1 := by decide +kernel
  have l3 : (Str.ofString "\n").length = 1 := by decide +kernel
  have l4 : (Str.ofString "0\n").length = 2 := by decide +kernel
  have l0 : Str.empty.length = 0 := rfl
  refine Exs_cons (Ex_assign (Ev_list (Evs_cons ?_)) (.inl rfl))
  repeat walk_at "m E"
  refine ⟨_, rfl, by rw [Str.length_append, sizeLine_eq]; omega, ?_⟩
  repeat walk_at "m E"
  refine ⟨T, rfl, hT.log, ⟨_, rfl, by show (_ ++ intS T).length ≤ _; rw [Str.length_append, Str.length_append, sizeLine_eq]; omega, ?_⟩⟩
  repeat walk_at "m E"
  refine ⟨_, rfl, by show ((_ ++ intS T) ++ _).length ≤ _; rw [Str.length_append, Str.length_append, Str.length_append, sizeLine_eq]; omega, ?_⟩
  repeat walk_at "m E"
  refine Cl_lenlist ha (by omega) ?_
  rw [hlen]
  refine ⟨_, rfl, hC.log, ⟨_, rfl, by show (((_ ++ intS T) ++ _) ++ intS _).length ≤ _; rw [Str.length_append, Str.length_append, Str.length_append, Str.length_append, sizeLine_eq]; omega, ?_⟩⟩
  repeat walk_at "m E"
  refine ⟨_, rfl, by show ((((_ ++ intS T) ++ _) ++ intS _) ++ _).length ≤ _; rw [Str.length_append, Str.length_append, Str.length_append, Str.length_append, Str.length_append, sizeLine_eq]; omega, ?_⟩
  repeat walk_at "m E"
  refine ⟨by show ((((_ ++ intS T) ++ _) ++ intS _) ++ _).length ≤ _; rw [Str.length_append, Str.length_append, Str.length_append, Str.length_append, Str.length_append, sizeLine_eq]; omega, ?_⟩
  repeat walk_at "m E"
  refine ⟨Nat.le_of_ble_eq_true rfl, fun R hR hR0 => ?_⟩
  show Exs _ _ _ _ _ _ (σ.set R (.list [.str (headS T cs.length)])) _ _
  refine Exs_cons (Ex_for (fun i vs ρ' σ' => Same ["clause"] ((bindA ["count", "clauses"] [.int T, .obj c] fun _ => none).set "rows" (.obj R)) ρ' ∧ AS.le σ σ' ∧ σ' R = some (.list ((headS T cs.length :: (cs.take i).map rowS).map .str)))
    (EvIt_list (Ev_local rfl rfl ⟨c, _, rfl, AS.get1 (AS.ne ha hR) ha, ⟨.refl, AS.le_set hR, AS.set_same ..⟩, fun i ρ' σ' _ hi => hi.2.1 _ _ ha, ?_, ?_⟩)))
  · rintro i v ρ' σ' hv ⟨hS, hle, hRr⟩
    obtain ⟨cl, hcl, rfl⟩ : ∃ cl, cs[i]? = some cl ∧ v = .tup (cl.map .int) := by
      simp only [clAV, List.getElem?_map, Option.map_eq_some_iff] at hv
      obtain ⟨cl, h1, h2⟩ := hv; exact ⟨cl, h1, h2.symm⟩
    have hcm := List.mem_of_getElem? hcl
    have hok := hc.ok hcm
    have h3 := (hc cl hcm).1
    have hi : i < cs.length := (List.getElem?_eq_some_iff.mp hcl).1
    refine As_name (.inl rfl) (Exs_cons (Ex_append (pl := _) C.kin (Ev_local (Rho.skip (hS.get rfl)) rfl ⟨R, _, rfl, hRr, Ev_bin (Ev_mcall (pl := _) C.kin (Ev_str (Meth_join ⟨.inl rfl, Evs_cons (Ev_comp (fun j acc σ'' => σ'' = σ' ∧ acc = ((cl.take j).map litS).map .str)
      (EvIt_tup (Ev_local rfl rfl ⟨_, rfl, ?_, ⟨rfl, rfl⟩, fun _ _ _ _ _ => trivial, ?_, ?_⟩)))⟩)) rfl)⟩)))
    · rw [List.length_map, sizeLine_eq]; omega
    · rintro Cc j v acc σ'' hv ⟨rfl, rfl⟩
      obtain ⟨l, hl, rfl⟩ : ∃ l, cl[j]? = some l ∧ v = .int l := by
        simp only [List.getElem?_map, Option.map_eq_some_iff] at hv
        obtain ⟨l, h1, h2⟩ := hv; exact ⟨l, h1, h2.symm⟩
      have ho := hok l (List.mem_of_getElem? hl)
      have := ho.len
      show Ev _ _ _ _ _ _ _ _ _
      repeat walk_at "m E"
      refine ⟨_, rfl, ho.log, ⟨_, rfl, by show (_ ++ intS l).length ≤ _; rw [Str.length_append, sizeLine_eq]; omega, ?_⟩⟩
      repeat walk_at "m E"
      refine ⟨_, rfl, by show ((_ ++ intS l) ++ _).length ≤ _; rw [Str.length_append, Str.length_append, sizeLine_eq]; omega, ?_⟩
      repeat walk_at "m E"
      refine ⟨by show ((_ ++ intS l) ++ _).length ≤ _; rw [Str.length_append, Str.length_append, sizeLine_eq]; omega, rfl, ?_⟩
      rw [List.take_succ, hl]
      simp [litS, intS]
    · rintro D acc σ'' ⟨rfl, rfl⟩ hD hD0
      repeat walk_at "m E"
      rw [List.length_map, List.take_length]
      have hjl : (cl.map litS).length ≤ 3 := by rw [List.length_map]; exact h3
      have hjb : ∀ y ∈ cl.map litS, y.length ≤ 4 := fun y hy => by
        obtain ⟨l, hl, rfl⟩ := List.mem_map.mp hy
        exact lit_len (hok l hl)
      refine Cl_join (AS.set_same ..) (join_ok hjb (by omega)) ?_
      repeat walk_at "m E"
      have hrl := row_len hok h3
      refine Bin_addstr ?_ ?_
      · have : (rowS cl).length = (Txt.join (Str.ofString "") (cl.map litS)).length + (Str.ofString "0\n").length := Str.length_append ..
        rw [sizeLine_eq]; omega
      have hRD : R ≠ D := fun e => by rw [e, hD] at hRr; cases hRr
      refine ⟨_, AS.get1 hRD hRr, ?_, ?_⟩
      · rw [List.length_map, List.length_cons, List.length_map, List.length_take, sizeLine_eq]; omega
      repeat walk_at "m E"
      refine ⟨fun x hx => ?_, AS.le_setr (AS.le_setr hle (AS.le_none hle hD)) hR, ?_⟩
      · rw [Rho.get_ne (by simpa using hx)]; exact hS x hx
      · rw [AS.set_same, List.take_succ, hcl]
        simp [rowS]
  · rintro ρ' σ' ⟨hS, hle, hRr⟩
    rw [hlen, List.take_length] at hRr
    refine Exs_cons (Ex_ret (Ev_mcall (pl := _) C.kin (Ev_str (Meth_join ⟨.inl rfl, ?_⟩)) rfl))
    repeat walk_at "m E"
    refine Cl_join hRr (join_ok (B := 14) (fun y hy => ?_) (by rw [List.length_cons, List.length_map]; omega)) ⟨σ, hle, h⟩
    rcases List.mem_cons.mp hy with rfl | q
    · exact head_len hT hC
    · obtain ⟨c, hl, rfl⟩ := List.mem_map.mp q
      exact row_len (hc.ok hl) (hc c hl).1
end
-- Pr7
section
variable {prog : Program} {w : World} {h₀ : Heap} {n : Nat} {σ : AS} {mg mb : Str → Option Value} {K : Frag} {fs : FA} {env : Env} {ρ : Rho}

theorem if_f {c : Bool} (e : c = false) {p q : Prop} (h : q) : if c then p else q := by rw [e]; exact h
theorem if_t {c : Bool} (e : c = true) {p q : Prop} (h : p) : if c then p else q := by rw [e]; exact h
theorem seqAt_nat {vs : List AV} {k : Nat} {v : AV} (h : vs[k]? = some v) (hk : vs.length < 2 ^ 62) : seqAt vs k v := by
  have := (List.getElem?_eq_some_iff.mp h).1
  exact ⟨by omega, by omega, .inl ⟨by omega, by simpa using h⟩⟩
theorem intS0 : Str.ofString "0" = intS 0 := by decide +kernel
theorem AS.le_get {σ σ' : AS} {a : Addr} {o : AO} (h : AS.le σ σ') (e : σ a = some o) : σ' a = some o := h a o e

theorem read_dimacs_spec (C : Cx h₀ mg mb K fs) {f f₁ : Addr} (X : Fn h₀ f (stAt 12)) (X₁ : Fn h₀ f₁ (stAt 11)) (G₁ : mg "whole_word" = some (.ref f₁)) (K₁ : keepIn K (.ref f₁) = true) {T : Int} {cs : List (List Int)} {Q : AV → AS → Prop}
    (hT : OkI T) (hT0 : 0 ≤ T) (hC : OkI cs.length) (hc : GoodC cs) (hb : ∀ c ∈ cs, ∀ l ∈ c, l ≠ 0 ∧ l.natAbs ≤ T.toNat) (hn : cs.length ≤ 40)
    (h : ∀ A, σ A = none → h₀.get? A = none → Q (.tup [.int T, .obj A]) (σ.set A (.list (clAV cs)))) : Cl prog w h₀ (n + 2) σ (.raw (.ref f)) [.str (textS T cs)] Q := by
  have X' : FnAt h₀ f (dArgs (stAt 12)) (dBody (stAt 12)) (dScope (stAt 12)) := X
  conv at X' => { arg 3; whnf }
  conv at X' => { arg 4; whnf }
  conv at X' => { arg 5; whnf }
  refine Cl.forget (Cl_def (names := ["text"]) C.top X' ?_ ?_ ?_)
  · intro _ _ _ _ _ _ _ vals hl
    match vals, hl with
    | [a], _ => rfl
  · rfl
  intro qual cdv L hL hL0
  have htl := text_len hT hC hc
  obtain ⟨hll, hlines⟩ := lines_spec hT hC hc
  generalize hLn : Txt.split (textS T cs) (Str.ofString "\n") = lines at hll hlines
  refine Exs_cons (Ex_assign ?_ (.inl rfl))
  repeat walk_at "m E"
  refine Ev_list (Evs_nil ⟨Nat.le_of_ble_eq_true rfl, fun A hA hA0 => ?_⟩)
  repeat walk_at "m E"
  refine Ev_list (Evs_nil ⟨Nat.le_of_ble_eq_true rfl, fun U hU hU0 => ?_⟩)
  obtain ⟨hU, hAU⟩ := AS.get0 hU
  repeat walk_at "m E"
  refine Exs_cons (Ex_forX (EvIt_list (Ev_mcall (pl := _) C.kin (Ev_local rfl rfl (Meth_split ⟨.inl rfl, Evs_cons (Ev_str (Evs_nil (Cl_split1 ?_ ?_ ?_ fun D hD hD0 => ?_)))⟩)) rfl)))
  · rw [sizeLine_eq]; omega
  · decide +kernel
  · rw [hLn, sizeLine_eq]; omega
  obtain ⟨hD, hUD⟩ := AS.get0 hD
  obtain ⟨hD, hAD⟩ := AS.get0 hD
  rw [hLn]
  clear X'
  have hDA : D ≠ A := Ne.symm hAD
  have hlz : lines.length < 2 ^ 62 := by rw [hll]; omega
  generalize hρ : (((((bindA ["text"] [.str (textS T cs)] fun _ => none).set "count" (.int (-1))).set "expected" (.int 0)).set "clauses" (.obj A)).set "current" (.obj U)).set "row" (.int 0) = ρ₀
  have g0 : ρ₀ "clauses" = some (.obj A) := by rw [← hρ]; rfl
  have g1 : ρ₀ "row" = some (.int 0) := by rw [← hρ]; rfl
  have g2 : ρ₀ "count" = some (.int (-1)) := by rw [← hρ]; rfl
  have g3 : ρ₀ "expected" = some (.int 0) := by rw [← hρ]; rfl
  have g4 : ρ₀ "current" = some (.obj U) := by rw [← hρ]; rfl
  refine ⟨D, _, rfl, AS.set_same .., fun i ρ' σ' => Same ["count", "expected", "current", "row", "line", "words", "word", "literal"] ρ₀ ρ' ∧ AS.le σ σ' ∧ σ' D = some (.list (lines.map .str)) ∧ σ' A = some (.list (clAV (cs.take (i - 1)))) ∧
      (∃ r, ρ' "row" = some (.int r)) ∧ ρ' "count" = some (.int (if i = 0 then -1 else T)) ∧ ρ' "expected" = some (.int (if i = 0 then 0 else cs.length)) ∧ ∃ U, ρ' "current" = some (.obj U) ∧ σ' U = some (.list []) ∧ σ U = none ∧ U ≠ A ∧ U ≠ D, ?_, ?_, ?_, ?_⟩
  · refine ⟨.refl, AS.le_setr (AS.le_setr (AS.le_set hA) hU) hD, AS.set_same .., ?_, ⟨_, g1⟩, g2, g3, U, g4, ?_, hU, Ne.symm hAU, hUD⟩
    · rw [AS.set_ne _ _ hAD, AS.set_ne _ _ hAU, AS.set_same]; rfl
    · rw [AS.set_ne _ _ hUD, AS.set_same]
  · rintro i ρ' σ' hi ⟨_, _, q, _⟩; exact q
  · rintro i v ρ' σ' hv ⟨hS, hle, hDl, hAl, ⟨r, hrow⟩, hcount, hexp, U', hcur, hU', hU0', hUA', hUD'⟩
    obtain ⟨x, hx, rfl⟩ : ∃ x, lines[i]? = some x ∧ v = .str x := by
      simp only [List.getElem?_map, Option.map_eq_some_iff] at hv
      obtain ⟨l, h1, h2⟩ := hv; exact ⟨l, h1, h2.symm⟩
    have hclauses : ρ' "clauses" = some (.obj A) := hS.get g0
    obtain ⟨hxl, hcase⟩ := hlines i x hx
    have hwl := words_len x
    refine As_name (.inl rfl) (Exs_hide fun Q1 k1 => Exs_cons (Ex_assign ?_ (.inl rfl)))
    repeat walk_at "m E"
    refine Ev_mcall0 (pl := _) C.kin (Ev_local (Rho.skip rfl) rfl (Meth_split ⟨.inl rfl, Cl_split0 ?_ ?_ fun W hW hW0 => ?_⟩)) rfl
    · rw [sizeLine_eq]; omega
    · rw [sizeLine_eq]; omega
    have hWD : W ≠ D := fun e => by rw [e, hDl] at hW; cases hW
    have hWA : W ≠ A := fun e => by rw [e, hAl] at hW; cases hW
    have hWU : W ≠ U' := fun e => by rw [e, hU'] at hW; cases hW
    have hWσ : σ W = none := AS.le_none hle hW
    have hS2 : Same ["count", "expected", "current", "row", "line", "words", "word", "literal"] ρ₀ (((ρ'.set "line" (.str x)).set "row" (.int (r + 1))).set "words" (.obj W)) := ((hS.set).set).set
    have q1 : (((ρ'.set "line" (.str x)).set "row" (.int (r + 1))).set "words" (.obj W)) "row" = some (.int (r + 1)) := rfl
    have q2 : (((ρ'.set "line" (.str x)).set "row" (.int (r + 1))).set "words" (.obj W)) "count" = some (.int (if i = 0 then -1 else T)) := hcount
    have q3 : (((ρ'.set "line" (.str x)).set "row" (.int (r + 1))).set "words" (.obj W)) "expected" = some (.int (if i = 0 then 0 else cs.length)) := hexp
    have q4 : (((ρ'.set "line" (.str x)).set "row" (.int (r + 1))).set "words" (.obj W)) "current" = some (.obj U') := hcur
    have q5 : (((ρ'.set "line" (.str x)).set "row" (.int (r + 1))).set "words" (.obj W)) "words" = some (.obj W) := rfl
    have q6 : (((ρ'.set "line" (.str x)).set "row" (.int (r + 1))).set "words" (.obj W)) "clauses" = some (.obj A) := hclauses
    dsimp only
    generalize (((ρ'.set "line" (.str x)).set "row" (.int (r + 1))).set "words" (.obj W)) = ρ₁ at hS2 q1 q2 q3 q4 q5 q6
    have hle1 : AS.le σ (σ'.set W (.list ((Txt.words x).map .str))) := AS.le_setr hle hWσ
    have s1 : (σ'.set W (.list ((Txt.words x).map .str))) W = some (.list ((Txt.words x).map .str)) := AS.set_same ..
    have s2 : (σ'.set W (.list ((Txt.words x).map .str))) D = some (.list (lines.map .str)) := AS.get1 (Ne.symm hWD) hDl
    have s3 : (σ'.set W (.list ((Txt.words x).map .str))) A = some (.list (clAV (cs.take (i - 1)))) := AS.get1 (Ne.symm hWA) hAl
    have s4 : (σ'.set W (.list ((Txt.words x).map .str))) U' = some (.list []) := AS.get1 (Ne.symm hWU) hU'
    generalize σ'.set W (.list ((Txt.words x).map .str)) = σ₁ at hle1 s1 s2 s3 s4
    rcases hcase with ⟨rfl, hws⟩ | ⟨j, c, rfl, hcj, hws⟩ | ⟨rfl, hws⟩
    · rw [hws] at s1
      have t0 : ∀ (k : Nat) (y : Str), [Str.ofString "p", Str.ofString "cnf", intS T, intS cs.length][k]? = some y → seqAt ([Str.ofString "p", Str.ofString "cnf", intS T, intS cs.length].map AV.str) k (.str y) := fun k y e => seqAt_nat (by rw [List.getElem?_map, e]; rfl) (by show (4 : Nat) < _; decide)
      refine Exs_cons (Ex_if ?_)
      repeat walk_at "m E"
      refine Truthy_list s1 (by show (4 : Nat) < _; decide) ?_
      refine if_f rfl ?_
      repeat walk_at "m E"
      refine Ev_sub ?_
      repeat walk_at "m E"
      refine ⟨W, _, 0, _, rfl, rfl, s1, t0 0 _ rfl, ?_⟩
      repeat walk_at "m E"
      refine if_f rfl ?_
      repeat walk_at "m E"
      refine if_f rfl ?_
      repeat walk_at "m E"
      refine Ev_sub ?_
      repeat walk_at "m E"
      refine ⟨W, _, 0, _, rfl, rfl, s1, t0 0 _ rfl, ?_⟩
      repeat walk_at "m E"
      refine if_t rfl ?_
      repeat walk_at "m E"
      refine if_f rfl ?_
      repeat walk_at "m E"
      refine Cl_lenlist s1 (by show (4 : Nat) < _; decide) ?_
      repeat walk_at "m E"
      refine if_f rfl ?_
      repeat walk_at "m E"
      refine Ev_sub ?_
      repeat walk_at "m E"
      refine ⟨W, _, 1, _, rfl, rfl, s1, t0 1 _ rfl, ?_⟩
      repeat walk_at "m E"
      refine if_f rfl ?_
      repeat walk_at "m E"
      refine if_f rfl ?_
      repeat walk_at "m E"
      refine Ev_callK C.kin (Ev_global C.top G₁ rfl ⟨_, rfl, K₁, Evs_cons ?_⟩)
      refine Ev_sub ?_
      repeat walk_at "m E"
      refine ⟨W, _, 2, _, rfl, rfl, s1, t0 2 _ rfl, ?_⟩
      repeat walk_at "m E"
      refine whole_word_spec C X₁ hT ?_
      repeat walk_at "m E"
      refine Ev_callK C.kin (Ev_global C.top G₁ rfl ⟨_, rfl, K₁, Evs_cons ?_⟩)
      refine Ev_sub ?_
      repeat walk_at "m E"
      refine ⟨W, _, 3, _, rfl, rfl, s1, t0 3 _ rfl, ?_⟩
      repeat walk_at "m E"
      refine whole_word_spec C X₁ hC ?_
      repeat walk_at "m E"
      refine if_f (decide_eq_false (by omega)) ?_
      repeat walk_at "m E"
      refine if_f (decide_eq_false (by omega)) ?_
      repeat walk_at "m E"
      refine if_f rfl ?_
      repeat walk_at "m E"
      exact k1 _ _ _ ⟨(hS2.set).set, hle1, s2, s3, ⟨_, Rho.skip (Rho.skip q1)⟩, rfl, rfl, U', Rho.skip (Rho.skip q4), s4, hU0', hUA', hUD'⟩
    · have hcm := List.mem_of_getElem? hcj
      have hok := hc.ok hcm
      have hjl : j < cs.length := (List.getElem?_eq_some_iff.mp hcj).1
      have h3 := (hc c hcm).1
      rw [intS0] at hws
      have hok' : ∀ (k : Nat) (l : Int), (c ++ [0])[k]? = some l → OkI l ∧ l.natAbs ≤ T.toNat := fun k l e => by
        rcases List.mem_append.mp (List.mem_of_getElem? e) with q | q
        · exact ⟨hok l q, (hb c hcm l q).2⟩
        · rw [List.mem_singleton.mp q]; exact ⟨okI_to (by decide) (by decide), Nat.zero_le _⟩
      have hws' : Txt.words x = (c ++ [0]).map intS := by rw [hws]; simp
      rw [hws'] at s1
      have hwz : (((c ++ [0]).map intS).map AV.str).length < 2 ^ 62 := by rw [List.length_map, List.length_map, List.length_append, List.length_singleton]; omega
      obtain ⟨l0, hl0⟩ : ∃ l, (c ++ [0])[0]? = some l := ⟨_, List.getElem?_eq_getElem (by simp)⟩
      have o0 := (hok' 0 l0 hl0).1
      have t0 : seqAt (((c ++ [0]).map intS).map AV.str) (0 : Nat) (.str (intS l0)) := seqAt_nat (by rw [List.getElem?_map, List.getElem?_map, hl0]; rfl) hwz
      have e1 : (!(!(((c ++ [0]).map intS).map AV.str).isEmpty)) = false := by cases c <;> rfl
      refine Exs_cons (Ex_if ?_)
      repeat walk_at "m E"
      refine Truthy_list s1 hwz ?_
      refine if_f e1 ?_
      repeat walk_at "m E"
      refine Ev_sub ?_
      repeat walk_at "m E"
      refine ⟨W, _, 0, _, rfl, rfl, s1, t0, ?_⟩
      repeat walk_at "m E"
      refine if_f o0.nc ?_
      repeat walk_at "m E"
      refine if_f rfl ?_
      repeat walk_at "m E"
      refine Ev_sub ?_
      repeat walk_at "m E"
      refine ⟨W, _, 0, _, rfl, rfl, s1, t0, ?_⟩
      repeat walk_at "m E"
      refine if_f o0.np ?_
      repeat walk_at "m E"
      have q2' : ρ₁ "count" = some (.int T) := q2
      have q3' : ρ₁ "expected" = some (.int cs.length) := q3
      rw [show j + 1 - 1 = j from rfl] at s3
      have hWA' : A ≠ W := Ne.symm hWA
      refine Exs_cons (Ex_for (fun k vs ρ'' σ'' => Same ["current", "word", "literal"] ρ₁ ρ'' ∧ AS.le σ σ'' ∧ σ'' D = some (.list (lines.map .str)) ∧ σ'' W = some (.list (((c ++ [0]).map intS).map .str)) ∧
          σ'' A = some (.list (clAV (cs.take (if k ≤ c.length then j else j + 1)))) ∧ ∃ U, ρ'' "current" = some (.obj U) ∧ σ'' U = some (.list ((if k ≤ c.length then c.take k else []).map .int)) ∧ σ U = none ∧ U ≠ A ∧ U ≠ D ∧ U ≠ W)
        (EvIt_list (Ev_local q5 rfl ⟨W, _, rfl, s1, ⟨.refl, hle1, s2, s1, by rw [if_pos (Nat.zero_le _)]; exact s3, U', q4, by rw [if_pos (Nat.zero_le _)]; exact s4, hU0', hUA', hUD', Ne.symm hWU⟩, fun _ _ _ _ hi => hi.2.2.2.1, ?_, ?_⟩)))
      · rintro k v ρ'' σ'' hv ⟨hS', hle', d1, d2, d3, V, d4, d5, d6, d7, d8, d9⟩
        obtain ⟨l, hl, rfl⟩ : ∃ l, (c ++ [0])[k]? = some l ∧ v = .str (intS l) := by
          rw [List.getElem?_map, List.getElem?_map] at hv
          obtain ⟨y, h1, h2⟩ := Option.map_eq_some_iff.mp hv
          obtain ⟨l, h3, h4⟩ := Option.map_eq_some_iff.mp h1
          exact ⟨l, h3, by rw [← h2, ← h4]⟩
        obtain ⟨ol, nl⟩ := hok' k l hl
        have hk : k ≤ c.length := by
          have := (List.getElem?_eq_some_iff.mp hl).1
          rw [List.length_append, List.length_singleton] at this
          omega
        rw [if_pos hk] at d3 d5
        refine As_name (.inl rfl) (Exs_hide fun Q2 k2 => Exs_cons (Ex_assign ?_ (.inl rfl)))
        refine Ev_callK C.kin (Ev_global C.top G₁ rfl ⟨_, rfl, K₁, Evs_cons ?_⟩)
        repeat walk_at "m E"
        refine whole_word_spec C X₁ ol ?_
        repeat walk_at "m E"
        refine if_f (decide_eq_false (by omega)) ?_
        repeat walk_at "m E"
        refine Cl_abs ?_
        repeat walk_at "m E"
        refine if_f (decide_eq_false (by split <;> omega)) ?_
        repeat walk_at "m E"
        refine if_f rfl ?_
        repeat walk_at "m E"
        by_cases hlast : k = c.length
        · have hl0 : l = 0 := by
            rw [List.getElem?_append_right (by omega), hlast] at hl
            simpa using hl.symm
          subst hl0
          refine if_t rfl ?_
          have hct : c.take k = c := List.take_of_length_le (by omega)
          rw [hct] at d5
          refine Exs_cons (Ex_append (pl := _) C.kin ?_)
          refine Ev_local (Rho.skip (Rho.skip (hS'.get q6))) rfl ⟨A, _, rfl, d3, ?_⟩
          repeat walk_at "m E"
          refine Cl_tuple_list d5 (by rw [List.length_map, sizeLine_eq]; omega) ⟨_, d3, by unfold clAV; rw [List.length_map, List.length_take, sizeLine_eq]; omega, ?_⟩
          repeat walk_at "m E"
          refine Ev_list (Evs_nil ⟨Nat.le_of_ble_eq_true rfl, fun V' hV' hV0' => ?_⟩)
          repeat walk_at "m E"
          have nA : V' ≠ A := fun e => by rw [e, AS.set_same] at hV'; cases hV'
          rw [AS.set_ne _ _ nA] at hV'
          have nD : V' ≠ D := fun e => by rw [e, d1] at hV'; cases hV'
          have nW : V' ≠ W := fun e => by rw [e, d2] at hV'; cases hV'
          have nσ : σ V' = none := AS.le_none hle' hV'
          refine k2 _ _ _ ⟨((hS'.set).set).set, AS.le_setr (AS.le_setr hle' hA) nσ, ?_, ?_, ?_, V', rfl, ?_, nσ, nA, nD, nW⟩
          · rw [AS.set_ne _ _ (Ne.symm nD), AS.set_ne _ _ hDA]; exact d1
          · rw [AS.set_ne _ _ (Ne.symm nW), AS.set_ne _ _ hWA]; exact d2
          · rw [AS.set_ne _ _ (Ne.symm nA), AS.set_same, if_neg (by omega), List.take_add_one, hcj]
            simp [clAV]
          · rw [AS.set_same, if_neg (by omega)]; rfl
        · have hkl : k < c.length := by omega
          have hcl : c[k]? = some l := by rw [List.getElem?_append_left hkl] at hl; exact hl
          have hl0 : l ≠ 0 := (hb c hcm l (List.mem_of_getElem? hcl)).1
          refine if_f (by simpa using hl0) ?_
          refine Exs_cons (Ex_append (pl := _) C.kin ?_)
          refine Ev_local (Rho.skip (Rho.skip d4)) rfl ⟨V, _, rfl, d5, ?_⟩
          repeat walk_at "m E"
          refine ⟨_, d5, by rw [List.length_map, List.length_take, sizeLine_eq]; omega, ?_⟩
          repeat walk_at "m E"
          refine k2 _ _ _ ⟨(hS'.set).set, AS.le_setr hle' d6, ?_, ?_, ?_, V, Rho.skip (Rho.skip d4), ?_, d6, d7, d8, d9⟩
          · rw [AS.set_ne _ _ (Ne.symm d8)]; exact d1
          · rw [AS.set_ne _ _ (Ne.symm d9)]; exact d2
          · rw [AS.set_ne _ _ (Ne.symm d7), if_pos (by omega)]; exact d3
          · rw [AS.set_same, if_pos (by omega), List.take_add_one, hcl]
            simp
      · rintro ρ'' σ'' ⟨hS', hle', d1, d2, d3, V, d4, d5, d6, d7, d8, d9⟩
        have e : (((c ++ [0]).map intS).map AV.str).length = c.length + 1 := by simp
        rw [e, if_neg (by omega)] at d3 d5
        repeat walk_at "m E"
        refine k1 _ _ _ ⟨fun y hy => (hS' y (by simp at hy ⊢; exact ⟨hy.2.2.1, hy.2.2.2.2.2.2.1, hy.2.2.2.2.2.2.2⟩)).trans (hS2 y hy), hle', d1, d3, ⟨_, hS'.get q1⟩, hS'.get q2', hS'.get q3', V, d4, d5, d6, d7, d8⟩
    · rw [hws] at s1
      refine Exs_cons (Ex_if ?_)
      repeat walk_at "m E"
      refine Truthy_list s1 (by show (0 : Nat) < _; decide) ?_
      refine if_t rfl ?_
      repeat walk_at "m E"
      refine if_t rfl ?_
      repeat walk_at "m E"
      refine k1 _ _ _ ⟨hS2, hle1, s2, ?_, ⟨_, q1⟩, q2, q3, U', q4, s4, hU0', hUA', hUD'⟩
      rw [s3]
      rw [List.take_of_length_le (by omega), List.take_of_length_le (by omega)]
  · rintro ρ' σ' ⟨hS, hle, hDl, hAl, ⟨r, hrow⟩, hcount, hexp, U', hcur, hU', hU0', hUA', hUD'⟩
    have e : (lines.map AV.str).length = cs.length + 2 := by rw [List.length_map, hll]
    rw [e] at hAl hcount hexp
    rw [if_neg (by omega)] at hcount hexp
    rw [List.take_of_length_le (by omega)] at hAl
    have hclauses : ρ' "clauses" = some (.obj A) := hS.get g0
    have hcl : (clAV cs).length = cs.length := by unfold clAV; rw [List.length_map]
    refine Exs_cons (Ex_if ?_)
    repeat walk_at "m E"
    refine if_f (decide_eq_false (by omega)) ?_
    repeat walk_at "m E"
    refine Truthy_list hU' (by show (0 : Nat) < _; decide) ?_
    refine if_f rfl ?_
    repeat walk_at "m E"
    refine Cl_lenlist hAl (by rw [hcl]; omega) ?_
    repeat walk_at "m E"
    refine if_f (by rw [hcl]; simp) ?_
    repeat walk_at "m E"
    refine if_f rfl ?_
    repeat walk_at "m E"
    refine Ev_tuple (Evs_cons ?_)
    repeat walk_at "m E"
    refine ⟨Nat.le_of_ble_eq_true rfl, _, ?_, h A hA hA0⟩
    intro b p e
    rw [AS.set_eq] at e
    split at e
    · rename_i q; subst q; cases e; exact hAl
    · exact hle b p e
end
-- Pr8
noncomputable def HandV (cells : Addr) (len : Nat) (hs : List AV) : Prop := ∃ i k seed : Int, hs = [.obj cells, .int i, .int k, .int seed] ∧ 0 ≤ i ∧ i ≤ len ∧ 0 ≤ k ∧ 0 ≤ seed ∧ seed < 2147483648

section
variable {prog : Program} {w : World} {h₀ : Heap} {n : Nat} {σ : AS} {mg mb : Str → Option Value} {K : Frag} {fs : FA} {env : Env} {ρ : Rho}

theorem pick_spec (C : Cx h₀ mg mb K fs) {f : Addr} (X : Fn h₀ f (stAt 17)) {H cells : Addr} {ns : List Int} {hs : List AV} {m : Int} {Q : AV → AS → Prop} (hm : 1 ≤ m) (hm2 : m < 1000) (hc : σ cells = some (.list (ns.map .int))) (hn : ns.length ≤ 63) (hH : σ H = some (.list hs)) (hv : HandV cells ns.length hs)
    (h : ∀ r hs', 0 ≤ r → r < m → HandV cells ns.length hs' → Q (.int r) (σ.set H (.list hs'))) : Cl prog w h₀ (n + 1) σ (.raw (.ref f)) [.obj H, .int m] Q := by
  have X' : FnAt h₀ f (dArgs (stAt 17)) (dBody (stAt 17)) (dScope (stAt 17)) := X
  conv at X' => { arg 3; whnf }
  conv at X' => { arg 4; whnf }
  conv at X' => { arg 5; whnf }
  refine Cl_def (names := ["hand", "limit"]) C.top X' ?_ ?_ ?_
  · intro _ _ _ _ _ _ _ vals hl
    match vals, hl with
    | [a, b], _ => rfl
  · rfl
  intro qual cdv L hL hL0
  clear X'
  obtain ⟨i, k, seed, rfl, hi, hil, hk, hs0, hs1⟩ := hv
  have hne : cells ≠ H := fun e => by
    rw [e, hH] at hc
    cases ns with
    | nil => simp at hc
    | cons a ns => simp at hc
  have t : ∀ (i k seed : Int) (j : Nat) (v : AV), [AV.obj cells, AV.int i, AV.int k, AV.int seed][j]? = some v → seqAt [AV.obj cells, AV.int i, AV.int k, AV.int seed] j v := fun i k seed j v e => seqAt_nat e (by show (4 : Nat) < _; decide)
  have fm : ∀ a b : Int, 0 < b → 0 ≤ a.fmod b ∧ a.fmod b < b := fun a b hb => by
    rw [Int.fmod_eq_emod_of_nonneg _ (by omega)]
    exact ⟨Int.emod_nonneg _ (by omega), Int.emod_lt_of_pos _ hb⟩
  -- the end: a digit of what is left
  have tail : ∀ (i' k' seed' : Int) ρ', 0 ≤ i' → i' ≤ ns.length → 0 ≤ k' → 0 ≤ seed' → seed' < 2147483648 → ρ' "hand" = some (.obj H) → ρ' "limit" = some (.int m) →
      ∀ st rest, dBody (stAt 17) = st :: rest → Exs prog w h₀ n (envOfC qual (dScope (stAt 17)) L f cdv) ρ' (σ.set H (.list [.obj cells, .int i', .int k', .int seed'])) rest fun fl _ σ' => Q fl.out σ' := by
    intro i' k' seed' ρ' a1 a2 a3 a4 a5 a6 a7 st rest e
    cases e
    refine Exs_cons (Ex_assign ?_ (.inl rfl))
    refine Ev_bin (Ev_sub ?_)
    repeat walk_at "m E"
    refine ⟨H, _, 2, _, rfl, rfl, AS.set_same .., t _ _ _ 2 _ rfl, ?_⟩
    repeat walk_at "m E"
    refine Bin_mod (by omega) ?_
    obtain ⟨f1, f2⟩ := fm k' m (by omega)
    have f3 : 0 ≤ k'.fdiv m := by rw [Int.fdiv_eq_ediv_of_nonneg _ (by omega)]; exact Int.ediv_nonneg a3 (by omega)
    refine Exs_cons (Ex_setlist ?_)
    refine Ev_bin (Ev_sub ?_)
    repeat walk_at "m E"
    refine ⟨H, _, 2, _, rfl, rfl, AS.set_same .., t _ _ _ 2 _ rfl, ?_⟩
    repeat walk_at "m E"
    refine Bin_fdiv (by omega) (by omega) ?_
    repeat walk_at "m E"
    refine ⟨H, _, 2, rfl, rfl, AS.set_same .., by decide, by show (2 : Int) < 4; decide, by show (4 : Nat) < _; decide, ?_⟩
    repeat walk_at "m E"
    rw [AS.set_set]
    exact h _ _ f1 f2 ⟨i', k'.fdiv m, seed', rfl, a1, a2, f3, a4, a5⟩
  refine Exs_cons (Ex_if ?_)
  refine Tr_cmp (Ev_sub ?_)
  repeat walk_at "m E"
  refine ⟨H, _, 2, _, rfl, rfl, hH, t _ _ _ 2 _ rfl, ?_⟩
  repeat walk_at "m E"
  cases hk0 : k == 0 with
  | false =>
    refine if_f rfl (Exs_nil ?_)
    have := tail i k seed (bindA ["hand", "limit"] [.obj H, .int m] fun _ => none) hi hil hk hs0 hs1 rfl rfl _ _ rfl
    rw [AS.set_self hH] at this
    exact this
  | true =>
    refine if_t rfl ?_
    refine Exs_cons (Ex_if ?_)
    refine Tr_cmp (Ev_sub ?_)
    repeat walk_at "m E"
    refine ⟨H, _, 1, _, rfl, rfl, hH, t _ _ _ 1 _ rfl, ?_⟩
    repeat walk_at "m E"
    refine Ev_sub ?_
    repeat walk_at "m E"
    refine ⟨H, _, 0, _, rfl, rfl, hH, t _ _ _ 0 _ rfl, ?_⟩
    repeat walk_at "m E"
    refine Cl_lenlist hc (by rw [List.length_map]; omega) ?_
    rw [List.length_map]
    repeat walk_at "m E"
    cases hie : i == (ns.length : Int) with
    | true =>
      refine if_t rfl ?_
      refine Exs_cons (Ex_setlist ?_)
      refine Ev_bin (Ev_bin (Ev_sub ?_))
      repeat walk_at "m E"
      refine ⟨H, _, 3, _, rfl, rfl, hH, t _ _ _ 3 _ rfl, ?_⟩
      repeat walk_at "m E"
      refine Bin_mul ?_ ?_
      · exact IntMulOk.of_right (by decide)
      repeat walk_at "m E"
      refine ⟨H, _, 3, rfl, rfl, hH, by decide, by show (3 : Int) < 4; decide, by show (4 : Nat) < _; decide, ?_⟩
      obtain ⟨f1, f2⟩ := fm (seed * 48271) 2147483647 (by decide)
      refine Exs_cons (Ex_ret ?_)
      refine Ev_bin (Ev_bin (Ev_sub ?_))
      repeat walk_at "m E"
      refine ⟨H, _, 3, _, rfl, rfl, AS.set_same .., t _ _ _ 3 _ rfl, ?_⟩
      repeat walk_at "m E"
      refine Bin_mod (by omega) ?_
      obtain ⟨g1, g2⟩ := fm (((seed * 48271).fmod 2147483647).fdiv 7) m (by omega)
      exact h _ _ g1 g2 ⟨i, k, _, rfl, hi, hil, hk, f1, by omega⟩
    | false =>
      have hlt : i < ns.length := by
        have : i ≠ ns.length := by simpa using hie
        omega
      obtain ⟨v, hv⟩ : ∃ v, ns[i.toNat]? = some v := ⟨_, List.getElem?_eq_getElem (by omega)⟩
      refine if_f rfl ?_
      repeat walk_at "m E"
      refine Ev_sub (Ev_sub ?_)
      repeat walk_at "m E"
      refine ⟨H, _, 0, _, rfl, rfl, hH, t _ _ _ 0 _ rfl, ?_⟩
      refine Ev_sub ?_
      repeat walk_at "m E"
      refine ⟨H, _, 1, _, rfl, rfl, hH, t _ _ _ 1 _ rfl, ?_⟩
      refine ⟨cells, _, i, .int v, rfl, rfl, hc, ⟨by omega, by omega, .inl ⟨hi, by rw [List.getElem?_map, hv]; rfl⟩⟩, ?_⟩
      refine Exs_cons (Ex_setlist ?_)
      refine Ev_bin (Ev_sub ?_)
      repeat walk_at "m E"
      refine ⟨H, _, 1, _, rfl, rfl, hH, t _ _ _ 1 _ rfl, ?_⟩
      repeat walk_at "m E"
      refine ⟨H, _, 1, rfl, rfl, hH, by decide, by show (1 : Int) < 4; decide, by show (4 : Nat) < _; decide, ?_⟩
      refine Exs_cons (Ex_setlist ?_)
      repeat walk_at "m E"
      have fin : ∀ k' : Int, 0 ≤ k' → Q = Q := fun _ _ => rfl
      have hset : (σ.set H (.list ([AV.obj cells, .int i, .int k, .int seed].set (Int.toNat 1) (.int (i + 1))))) H = some (.list [AV.obj cells, .int (i + 1), .int k, .int seed]) := AS.set_same ..
      cases hv0 : decide (0 ≤ v) with
      | true =>
        have hv0' : 0 ≤ v := of_decide_eq_true hv0
        refine if_t rfl ?_
        repeat walk_at "m E"
        refine ⟨H, _, 2, rfl, rfl, hset, by decide, by show (2 : Int) < 4; decide, by show (4 : Nat) < _; decide, ?_⟩
        rw [AS.set_set]
        exact Exs_nil (tail (i + 1) v seed _ (by omega) (by omega) hv0' hs0 hs1 rfl rfl _ _ rfl)
      | false =>
        have hv0' : ¬ 0 ≤ v := of_decide_eq_false hv0
        refine if_f rfl ?_
        repeat walk_at "m E"
        refine ⟨H, _, 2, rfl, rfl, hset, by decide, by show (2 : Int) < 4; decide, by show (4 : Nat) < _; decide, ?_⟩
        rw [AS.set_set]
        exact Exs_nil (tail (i + 1) (-v) seed _ (by omega) (by omega) (by omega) hs0 hs1 rfl rfl _ _ rfl)

noncomputable def ofF (vs : List Int) (l full : Int) : Int := if l.fmod 2 == 1 then full - vs.getD (l.fdiv 2).toNat 0 else vs.getD (l.fdiv 2).toNat 0
theorem law_of_spec (C : Cx h₀ mg mb K fs) {f : Addr} (X : Fn h₀ f (stAt 18)) {V : Addr} {vs : List Int} {l full : Int} {Q : AV → AS → Prop} (hV : σ V = some (.list (vs.map .int))) (hl : 0 ≤ l) (hlt : l.fdiv 2 < vs.length) (hz : vs.length < 2 ^ 30)
    (h : Q (.int (ofF vs l full)) σ) : Cl prog w h₀ (n + 1) σ (.raw (.ref f)) [.obj V, .int l, .int full] Q := by
  have X' : FnAt h₀ f (dArgs (stAt 18)) (dBody (stAt 18)) (dScope (stAt 18)) := X
  conv at X' => { arg 3; whnf }
  conv at X' => { arg 4; whnf }
  conv at X' => { arg 5; whnf }
  refine Cl_def (names := ["values", "literal", "full"]) C.top X' ?_ ?_ ?_
  · intro _ _ _ _ _ _ _ vals hl
    match vals, hl with
    | [a, b, c], _ => rfl
  · rfl
  intro qual cdv L hL hL0
  clear X'
  have h0 : 0 ≤ l.fdiv 2 := by rw [Int.fdiv_eq_ediv_of_nonneg _ (by decide)]; omega
  have hat : seqAt (vs.map AV.int) (l.fdiv 2) (.int (vs.getD (l.fdiv 2).toNat 0)) := ⟨by omega, by omega, .inl ⟨h0, by
    rw [List.getElem?_map, List.getElem?_eq_getElem (by omega)]; simp [List.getD, List.getElem?_eq_getElem (show (l.fdiv 2).toNat < vs.length by omega)]⟩⟩
  unfold ofF at h
  refine Exs_cons (Ex_ret ?_)
  repeat walk_at "m E"
  cases hq : l.fmod 2 == 1 with
  | true =>
    rw [hq] at h
    refine if_t rfl ?_
    refine Ev_bin ?_
    repeat walk_at "m E"
    refine Ev_sub ?_
    repeat walk_at "m E"
    refine ⟨V, _, _, _, rfl, rfl, hV, hat, ?_⟩
    repeat walk_at "m E"
    exact h
  | false =>
    rw [hq] at h
    refine if_f rfl ?_
    refine Ev_sub ?_
    repeat walk_at "m E"
    exact ⟨V, _, _, _, rfl, rfl, hV, hat, h⟩
end
-- Pr9
noncomputable def meth (k : Nat) : Stmt := (cBody (stAt 14)).getD k (.Pass default)

structure ClsX (h₀ : Heap) (K : Frag) (fs : FA) : Prop where
  cls : Cls K fs.Aig
  glob : True
  keep : keepIn K (.ref fs.Aig) = true
  sets : ∀ x : Str, x = "nodes" ∨ x = "inputs" ∨ x = "outputs" ∨ x = "table" → Sets K fs.Aig x
  make : makesIn K fs.Aig = true
  init : ∃ f, findIn K (.ref fs.Aig) "__init__" = some (some (.ref f)) ∧ typeIn K (.ref f) = some (.type "function") ∧ Fn h₀ f (meth 0)
  add_input : ∃ f, ClsM h₀ K fs.Aig f "add_input" (meth 1)
  is_and : ∃ f, ClsM h₀ K fs.Aig f "is_and" (meth 3)
  land : ∃ f, ClsM h₀ K fs.Aig f "land" (meth 4)
  lor : ∃ f, ClsM h₀ K fs.Aig f "lor" (meth 5)
  lmux : ∃ f, ClsM h₀ K fs.Aig f "lmux" (meth 7)

noncomputable def aigM (nl il ol tl : Addr) : List (Str × AV) := [("table", .obj tl), ("outputs", .obj ol), ("inputs", .obj il), ("nodes", .obj nl)]

noncomputable def Valid (nodes : List Nd) (l : Int) : Prop := 0 ≤ l ∧ half l < nodes.length
structure GOk (nodes : List Nd) (es : List (List Int × Int)) : Prop where
  topo : Topo nodes
  zero : nodes[0]? = some none
  tab : ∀ p ∈ es, 0 ≤ p.2 ∧ p.2 < nodes.length
  len : nodes.length ≤ 1000
  tlen : es.length ≤ nodes.length

structure Gr (σ : AS) (x C d nl il ol tl : Addr) (nodes : List Nd) (ins : List AV) (es : List (List Int × Int)) : Prop where
  gx : σ x = some (.inst C d)
  gd : σ d = some (.ns (aigM nl il ol tl))
  gn : σ nl = some (.list (nodes.map ndAV))
  gi : σ il = some (.list ins)
  gt : σ tl = some (.tab es)
  ne : nl ≠ il
  nm : (tl == sysModules) = false

theorem Gr.aig {σ : AS} {x C d nl il ol tl : Addr} {nodes : List Nd} {ins : List AV} {es : List (List Int × Int)} (g : Gr σ x C d nl il ol tl nodes ins es) : IsAig σ x C d nl (aigM nl il ol tl) nodes := ⟨g.gx, g.gd, rfl, g.gn⟩
theorem Gr.nt {σ : AS} {x C d nl il ol tl : Addr} {nodes : List Nd} {ins : List AV} {es : List (List Int × Int)} (g : Gr σ x C d nl il ol tl nodes ins es) : nl ≠ tl := fun e => by have := g.gn; rw [e, g.gt] at this; cases this
theorem Gr.nx {σ : AS} {x C d nl il ol tl : Addr} {nodes : List Nd} {ins : List AV} {es : List (List Int × Int)} (g : Gr σ x C d nl il ol tl nodes ins es) : nl ≠ x ∧ nl ≠ d ∧ tl ≠ x ∧ tl ≠ d ∧ il ≠ x ∧ il ≠ d ∧ il ≠ tl :=
  have k : ∀ {a b : Addr} {o o' : AO}, σ a = some o → σ b = some o' → o ≠ o' → a ≠ b := fun ha hb ne e => by rw [e, hb] at ha; exact ne (Option.some.inj ha).symm
  ⟨k g.gn g.gx (by intro e; cases e), k g.gn g.gd (by intro e; cases e), k g.gt g.gx (by intro e; cases e), k g.gt g.gd (by intro e; cases e), k g.gi g.gx (by intro e; cases e), k g.gi g.gd (by intro e; cases e), k g.gi g.gt (by intro e; cases e)⟩

noncomputable def upd (σ : AS) (nl tl : Addr) (nodes : List Nd) (es : List (List Int × Int)) : AS := (σ.set nl (.list (nodes.map ndAV))).set tl (.tab es)
theorem upd_self {σ : AS} {x C d nl il ol tl : Addr} {nodes : List Nd} {ins : List AV} {es : List (List Int × Int)} (g : Gr σ x C d nl il ol tl nodes ins es) : upd σ nl tl nodes es = σ := by
  unfold upd; rw [AS.set_self g.gn, AS.set_self g.gt]
theorem upd_upd {σ : AS} {nl tl : Addr} (h : nl ≠ tl) {n n' : List Nd} {e e' : List (List Int × Int)} : upd (upd σ nl tl n e) nl tl n' e' = upd σ nl tl n' e' := by
  unfold upd; rw [AS.swap _ h, AS.set_set]
theorem Gr.upd {σ : AS} {x C d nl il ol tl : Addr} {nodes : List Nd} {ins : List AV} {es : List (List Int × Int)} (g : Gr σ x C d nl il ol tl nodes ins es) (n : List Nd) (e : List (List Int × Int)) : Gr (Mine.upd σ nl tl n e) x C d nl il ol tl n ins e := by
  obtain ⟨h1, h2, h3, h4, h5, h6, h7⟩ := g.nx
  have h8 := g.nt
  unfold Mine.upd
  exact ⟨AS.get1 (Ne.symm h3) (AS.get1 (Ne.symm h1) g.gx), AS.get1 (Ne.symm h4) (AS.get1 (Ne.symm h2) g.gd), AS.get1 h8 (AS.set_same ..), AS.get1 h7 (AS.get1 (Ne.symm g.ne) g.gi), AS.set_same .., g.ne, g.nm⟩

theorem xor1 {l : Int} (h : 0 ≤ l) : 0 ≤ Builtin.bitXor l 1 ∧ half (Builtin.bitXor l 1) = half l := by
  rw [bitXor_and, bitAnd_m1, half_eq, half_eq]
  omega
theorem Valid.xor {nodes : List Nd} {l : Int} (h : Valid nodes l) : Valid nodes (Builtin.bitXor l 1) := ⟨(xor1 h.1).1, by rw [(xor1 h.1).2]; exact h.2⟩
theorem Valid.more {nodes nodes' : List Nd} {l : Int} (h : Valid nodes l) (e : nodes.length ≤ nodes'.length) : Valid nodes' l := ⟨h.1, by have := h.2; omega⟩
theorem Valid.zero {nodes : List Nd} (h : 0 < nodes.length) : Valid nodes 0 := ⟨by decide, by rw [half_eq]; omega⟩

theorem GOk.push {nodes : List Nd} {es : List (List Int × Int)} (g : GOk nodes es) {l r : Int} (hl : Valid nodes l) (hr : Valid nodes r) (hn : nodes.length < 1000) (k : List Int) : GOk (nodes ++ [some (l, r)]) (es ++ [(k, (nodes.length : Int))]) where
  topo := fun k a b e => by
    by_cases q : k < nodes.length
    · rw [List.getElem?_append_left q] at e; exact g.topo k a b e
    · have hk : k = nodes.length := by
        have := (List.getElem?_eq_some_iff.mp e).1
        rw [List.length_append, List.length_singleton] at this
        omega
      subst hk
      rw [List.getElem?_append_right (Nat.le_refl _), Nat.sub_self] at e
      simp only [List.getElem?_cons_zero, Option.some.injEq, Prod.mk.injEq] at e
      obtain ⟨rfl, rfl⟩ := e
      exact ⟨hl.1, hr.1, hl.2, hr.2⟩
  zero := by
    have := (List.getElem?_eq_some_iff.mp g.zero).1
    rw [List.getElem?_append_left this]; exact g.zero
  tab := fun p hp => by
    rw [List.length_append, List.length_singleton]
    rcases List.mem_append.mp hp with q | q
    · have := g.tab p q; exact ⟨this.1, by push_cast; omega⟩
    · rw [List.mem_singleton.mp q]; exact ⟨by show (0 : Int) ≤ (nodes.length : Int); omega, by show (nodes.length : Int) < _; push_cast; omega⟩
  len := by rw [List.length_append, List.length_singleton]; omega
  tlen := by rw [List.length_append, List.length_append, List.length_singleton, List.length_singleton]; exact Nat.succ_le_succ g.tlen
theorem GOk.pos {nodes : List Nd} {es : List (List Int × Int)} (g : GOk nodes es) : 0 < nodes.length := (List.getElem?_eq_some_iff.mp g.zero).1

section
variable {prog : Program} {w : World} {h₀ : Heap} {n : Nat} {σ : AS} {mg mb : Str → Option Value} {K : Frag} {fs : FA} {env : Env} {ρ : Rho}

theorem Ev_fld (C : Cx h₀ mg mb K fs) (c : ClsX h₀ K fs) {e : Expr} {name : Str} {pos : Pos} {Q : AV → AS → Prop} (hn : name = "nodes" ∨ name = "inputs" ∨ name = "outputs" ∨ name = "table")
    (h : Ev prog w h₀ n env ρ σ e fun o σ₁ => ∃ x d m v, o = .obj x ∧ σ₁ x = some (.inst fs.Aig d) ∧ σ₁ d = some (.ns m) ∧ m.lookup name = some (.obj v) ∧ Q (.obj v) σ₁)
    (he : eval (.Attribute e name pos) env = (do
      let o ← eval e env
      standAt pos.atName
      let r ← holding [o] (getAttr o name true)
      letTemporaryGo e o r
      pure r) := by with_unfolding_all rfl) : Ev prog w h₀ n env ρ σ (.Attribute e name pos) Q :=
  Ev_attr (h.mono fun o σ₁ ⟨x, d, m, v, e, hx, hd, hm, q⟩ => by
    subst e
    have hf : findIn K (.ref fs.Aig) name = some none := by
      rcases hn with rfl | rfl | rfl | rfl
      · exact c.cls.nodes
      · exact c.cls.inputs
      · exact c.cls.outputs
      · exact c.cls.table
    exact Attr_inst C.kin hx hd hm (c.cls.get _) c.cls.dict hf (fun h v r => by cases r; rfl) q) he

theorem add_input_spec (C : Cx h₀ mg mb K fs) (c : ClsX h₀ K fs) {f x d nl il ol tl : Addr} {nodes : List Nd} {ins : List AV} {es : List (List Int × Int)} {Q : AV → AS → Prop} (X : Fn h₀ f (meth 1)) (g : Gr σ x fs.Aig d nl il ol tl nodes ins es) (hl : nodes.length ≤ 1000) (hi : ins.length ≤ 1000)
    (h : Q (.int (2 * (nodes.length : Int))) ((σ.set nl (.list ((nodes ++ [none]).map ndAV))).set il (.list (ins ++ [.int nodes.length])))) : Cl prog w h₀ (n + 1) σ (.raw (.ref f)) [.obj x] Q := by
  have X' : FnAt h₀ f (dArgs (meth 1)) (dBody (meth 1)) (dScope (meth 1)) := X
  conv at X' => { arg 3; whnf }
  conv at X' => { arg 4; whnf }
  conv at X' => { arg 5; whnf }
  refine Cl_def (names := ["self"]) C.top X' ?_ ?_ ?_
  · intro _ _ _ _ _ _ _ vals hl
    match vals, hl with
    | [a], _ => rfl
  · rfl
  intro qual cdv L hL hL0
  clear X'
  obtain ⟨h1, h2, h3, h4, h5, h6, h7⟩ := g.nx
  refine Exs_cons (Ex_assign ?_ (.inl rfl))
  refine Ev_lennodes C c.cls (Ev_local rfl rfl ⟨x, d, nl, _, nodes, rfl, g.aig, by omega, ?_⟩)
  refine Exs_cons (Ex_append (pl := _) C.kin (Ev_fld C c (.inl rfl) (Ev_local rfl rfl ⟨x, d, _, nl, rfl, g.gx, g.gd, rfl, nl, _, rfl, g.gn, ?_⟩)))
  repeat walk_at "m E"
  refine ⟨_, g.gn, by rw [List.length_map, sizeLine_eq]; omega, ?_⟩
  have e1 : nodes.map ndAV ++ [AV.none] = (nodes ++ [none]).map ndAV := by rw [List.map_append]; rfl
  rw [e1]
  refine Exs_cons (Ex_append (pl := _) C.kin (Ev_fld C c (.inr (.inl rfl)) (Ev_local rfl rfl ⟨x, d, _, il, rfl, AS.get1 (Ne.symm h1) g.gx, AS.get1 (Ne.symm h2) g.gd, rfl, il, _, rfl, AS.get1 (Ne.symm g.ne) g.gi, ?_⟩)))
  repeat walk_at "m E"
  refine ⟨_, AS.get1 (Ne.symm g.ne) g.gi, by rw [sizeLine_eq]; omega, ?_⟩
  repeat walk_at "m E"
  exact Bin_mul (IntMulOk.of_left (by decide)) h
end
-- Pr10
theorem lookup_mem {es : List (List Int × Int)} {k : List Int} {v : Int} (h : es.lookup k = some v) : ∃ p ∈ es, p.2 = v := by
  induction es with
  | nil => cases h
  | cons p es ih =>
    obtain ⟨a, b⟩ := p
    rw [List.lookup_cons] at h
    split at h
    · cases h; exact ⟨_, List.mem_cons_self .., rfl⟩
    · obtain ⟨q, hq, e⟩ := ih h; exact ⟨q, List.mem_cons_of_mem _ hq, e⟩

section
variable {prog : Program} {w : World} {h₀ : Heap} {n : Nat} {σ : AS} {mg mb : Str → Option Value} {K : Frag} {fs : FA} {env : Env} {ρ : Rho}

noncomputable def Grown (nodes : List Nd) (es : List (List Int × Int)) (k : Nat) (nodes' : List Nd) (es' : List (List Int × Int)) : Prop := GOk nodes' es' ∧ nodes.length ≤ nodes'.length ∧ nodes'.length ≤ nodes.length + k

theorem land_spec (C : Cx h₀ mg mb K fs) (c : ClsX h₀ K fs) {f x d nl il ol tl : Addr} {nodes : List Nd} {ins : List AV} {es : List (List Int × Int)} {l r : Int} {Q : AV → AS → Prop} (X : Fn h₀ f (meth 4)) (g : Gr σ x fs.Aig d nl il ol tl nodes ins es) (ok : GOk nodes es) (hn : nodes.length < 900)
    (hl : Valid nodes l) (hr : Valid nodes r) (h : ∀ nodes' es' v, Grown nodes es 1 nodes' es' → Valid nodes' v → Q (.int v) (upd σ nl tl nodes' es')) : Cl prog w h₀ (n + 1) σ (.raw (.ref f)) [.obj x, .int l, .int r] Q := by
  have X' : FnAt h₀ f (dArgs (meth 4)) (dBody (meth 4)) (dScope (meth 4)) := X
  conv at X' => { arg 3; whnf }
  conv at X' => { arg 4; whnf }
  conv at X' => { arg 5; whnf }
  refine Cl_def (names := ["self", "l", "r"]) C.top X' ?_ ?_ ?_
  · intro _ _ _ _ _ _ _ vals hl
    match vals, hl with
    | [a, b, c], _ => rfl
  · rfl
  intro qual cdv L hL hL0
  clear X'
  obtain ⟨h1, h2, h3, h4, h5, h6, h7⟩ := g.nx
  have hsame : ∀ v, Valid nodes v → Q (.int v) σ := fun v hv => by
    have := h nodes es v ⟨ok, Nat.le_refl _, Nat.le_add_right _ _⟩ hv
    rwa [upd_self g] at this
  have v0 : Valid nodes 0 := .zero ok.pos
  -- behind the swap
  have tail : ∀ l r : Int, Valid nodes l → Valid nodes r → ∀ ρ', ρ' "self" = some (.obj x) → ρ' "l" = some (.int l) → ρ' "r" = some (.int r) →
      ∀ st rest, dBody (meth 4) = st :: rest → Exs prog w h₀ n (envOfC qual (dScope (meth 4)) L f cdv) ρ' σ rest fun fl _ σ' => Q fl.out σ' := by
    intro l r hl hr ρ' e1 e2 e3 st rest e
    cases e
    refine Exs_cons (Ex_if ?_)
    repeat walk_at "m E"
    have part2 : Exs prog w h₀ n (envOfC qual (dScope (meth 4)) L f cdv) ρ' σ ((dBody (meth 4)).drop 2) fun fl _ σ' => Q fl.out σ' := by
      refine Exs_cons (Ex_if ?_)
      repeat walk_at "m E"
      have part3 : Exs prog w h₀ n (envOfC qual (dScope (meth 4)) L f cdv) ρ' σ ((dBody (meth 4)).drop 3) fun fl _ σ' => Q fl.out σ' := by
        refine Exs_cons (Ex_assign ?_ (.inl rfl))
        refine Ev_mcall (pl := _) C.kin (Ev_fld C c (.inr (.inr (.inr rfl))) (Ev_local e1 rfl ⟨x, d, _, tl, rfl, g.gx, g.gd, rfl, Meth_dictget g.gt ⟨.inl rfl, Evs_cons (Ev_tuple ?_)⟩⟩)) rfl
        repeat walk_at "m E"
        refine ⟨Nat.le_of_ble_eq_true rfl, ?_⟩
        repeat walk_at "m E"
        refine Cl_dictget (ks := [l, r]) g.gt g.nm ?_
        repeat walk_at "m E"
        have q1 : (ρ'.set "node" (.int ((es.lookup [l, r]).getD (-1)))) "self" = some (.obj x) := e1
        have q2 : (ρ'.set "node" (.int ((es.lookup [l, r]).getD (-1)))) "l" = some (.int l) := e2
        have q3 : (ρ'.set "node" (.int ((es.lookup [l, r]).getD (-1)))) "r" = some (.int r) := e3
        cases hlk : es.lookup [l, r] with
        | some v =>
          obtain ⟨p, hp, rfl⟩ := lookup_mem hlk
          have hp' := ok.tab p hp
          simp only [Option.getD_some]
          refine if_f (decide_eq_false (by omega)) (Exs_nil ?_)
          repeat walk_at "m E"
          refine Bin_mul (IntMulOk.of_left (by decide)) (hsame _ ⟨by omega, ?_⟩)
          rw [half_eq]; omega
        | none =>
          rw [hlk] at q1 q2 q3
          simp only [Option.getD_none] at q1 q2 q3 ⊢
          refine if_t rfl ?_
          refine Exs_cons (Ex_assign ?_ (.inl rfl))
          refine Ev_lennodes C c.cls (Ev_local q1 rfl ⟨x, d, nl, _, nodes, rfl, g.aig, by omega, ?_⟩)
          refine Exs_cons (Ex_append (pl := _) C.kin (Ev_fld C c (.inl rfl) (Ev_local (Rho.skip q1) rfl ⟨x, d, _, nl, rfl, g.gx, g.gd, rfl, nl, _, rfl, g.gn, Ev_tuple (Evs_cons ?_)⟩)))
          repeat walk_at "m E"
          refine ⟨Nat.le_of_ble_eq_true rfl, _, g.gn, by rw [List.length_map, sizeLine_eq]; omega, ?_⟩
          have e9 : nodes.map ndAV ++ [AV.tup [.int l, .int r]] = (nodes ++ [some (l, r)]).map ndAV := by rw [List.map_append]; rfl
          rw [e9]
          refine Exs_cons (Ex_settab ?_)
          repeat walk_at "m E"
          refine Ev_fld C c (.inr (.inr (.inr rfl))) (Ev_local (Rho.skip q1) rfl ⟨x, d, _, tl, rfl, AS.get1 (Ne.symm h1) g.gx, AS.get1 (Ne.symm h2) g.gd, rfl, Ev_tuple (Evs_cons ?_)⟩)
          repeat walk_at "m E"
          refine ⟨Nat.le_of_ble_eq_true rfl, tl, es, [l, r], _, rfl, rfl, rfl, AS.get1 (Ne.symm g.nt) g.gt, hlk, by have := ok.tlen; rw [sizeLine_eq]; omega, ?_⟩
          refine Exs_nil ?_
          repeat walk_at "m E"
          have hg := ok.push hl hr (by omega) [l, r]
          refine Bin_mul (IntMulOk.of_left (by decide)) (h _ _ _ ⟨hg, by rw [List.length_append]; omega, by rw [List.length_append, List.length_singleton]; exact Nat.le_refl _⟩ ⟨by omega, ?_⟩)
          rw [half_eq, List.length_append, List.length_singleton]
          omega
      cases hl1 : l == 1 with
      | true =>
        refine if_t rfl ?_
        repeat walk_at "m E"
        refine if_t rfl ?_
        repeat walk_at "m E"
        exact hsame _ hr
      | false =>
        refine if_f rfl ?_
        repeat walk_at "m E"
        cases hlr : l == r with
        | true =>
          refine if_t rfl ?_
          repeat walk_at "m E"
          refine if_t rfl ?_
          repeat walk_at "m E"
          exact hsame _ hr
        | false =>
          refine if_f rfl ?_
          repeat walk_at "m E"
          refine if_f rfl (Exs_nil ?_)
          exact part3
    cases hl0 : l == 0 with
    | true =>
      refine if_t rfl ?_
      repeat walk_at "m E"
      refine if_t rfl ?_
      repeat walk_at "m E"
      exact hsame _ v0
    | false =>
      refine if_f rfl ?_
      repeat walk_at "m E"
      cases hlr : l == Builtin.bitXor r 1 with
      | true =>
        refine if_t rfl ?_
        repeat walk_at "m E"
        refine if_t rfl ?_
        repeat walk_at "m E"
        exact hsame _ v0
      | false =>
        refine if_f rfl ?_
        repeat walk_at "m E"
        refine if_f rfl (Exs_nil ?_)
        exact part2
  refine Exs_cons (Ex_if ?_)
  repeat walk_at "m E"
  cases hgt : decide (r < l) with
  | true =>
    refine if_t rfl ?_
    refine Exs_cons (Ex_swap ?_ (.inl rfl) (.inl rfl))
    repeat walk_at "m E"
    refine ⟨_, _, rfl, Exs_nil ?_⟩
    exact tail r l hr hl _ rfl rfl rfl _ _ rfl
  | false =>
    refine if_f rfl (Exs_nil ?_)
    exact tail l r hl hr _ rfl rfl rfl _ _ rfl

theorem lor_spec (C : Cx h₀ mg mb K fs) (c : ClsX h₀ K fs) {f x d nl il ol tl : Addr} {nodes : List Nd} {ins : List AV} {es : List (List Int × Int)} {l r : Int} {Q : AV → AS → Prop} (X : Fn h₀ f (meth 5)) (g : Gr σ x fs.Aig d nl il ol tl nodes ins es) (ok : GOk nodes es) (hn : nodes.length < 900)
    (hl : Valid nodes l) (hr : Valid nodes r) (h : ∀ nodes' es' v, Grown nodes es 1 nodes' es' → Valid nodes' v → Q (.int v) (upd σ nl tl nodes' es')) : Cl prog w h₀ (n + 2) σ (.raw (.ref f)) [.obj x, .int l, .int r] Q := by
  have X' : FnAt h₀ f (dArgs (meth 5)) (dBody (meth 5)) (dScope (meth 5)) := X
  conv at X' => { arg 3; whnf }
  conv at X' => { arg 4; whnf }
  conv at X' => { arg 5; whnf }
  refine Cl_def (names := ["self", "l", "r"]) C.top X' ?_ ?_ ?_
  · intro _ _ _ _ _ _ _ vals hl
    match vals, hl with
    | [a, b, c], _ => rfl
  · rfl
  intro qual cdv L hL hL0
  clear X'
  obtain ⟨fl, M⟩ := c.land
  refine Exs_cons (Ex_ret (Ev_bin ?_))
  refine Ev_mcall (pl := _) C.kin (Ev_local rfl rfl (Meth_inst C.kin g.gx g.gd rfl (c.cls.get _) M.find M.fn ⟨.inr M.keep, ?_⟩)) rfl
  repeat walk_at "m E"
  refine land_spec C c M.at' g ok hn hl.xor hr.xor fun nodes' es' v hg hv => ?_
  repeat walk_at "m E"
  exact h _ _ _ hg hv.xor

theorem Grown.trans {n₁ n₂ n₃ : List Nd} {e₁ e₂ e₃ : List (List Int × Int)} {a b : Nat} (x : Grown n₁ e₁ a n₂ e₂) (y : Grown n₂ e₂ b n₃ e₃) : Grown n₁ e₁ (a + b) n₃ e₃ := ⟨y.1, Nat.le_trans x.2.1 y.2.1, by have := x.2.2; have := y.2.2; omega⟩
theorem Grown.more {n₁ n₂ : List Nd} {e₁ e₂ : List (List Int × Int)} {a b : Nat} (x : Grown n₁ e₁ a n₂ e₂) (h : a ≤ b) : Grown n₁ e₁ b n₂ e₂ := ⟨x.1, x.2.1, Nat.le_trans x.2.2 (Nat.add_le_add_left h _)⟩
theorem Grown.refl {n₁ : List Nd} {e₁ : List (List Int × Int)} {a : Nat} (x : GOk n₁ e₁) : Grown n₁ e₁ a n₁ e₁ := ⟨x, Nat.le_refl _, Nat.le_add_right _ _⟩

theorem lmux_spec (C : Cx h₀ mg mb K fs) (c : ClsX h₀ K fs) {f x d nl il ol tl : Addr} {nodes : List Nd} {ins : List AV} {es : List (List Int × Int)} {s a b : Int} {Q : AV → AS → Prop} (X : Fn h₀ f (meth 7)) (g : Gr σ x fs.Aig d nl il ol tl nodes ins es) (ok : GOk nodes es) (hn : nodes.length < 800)
    (hs : Valid nodes s) (ha : Valid nodes a) (hb : Valid nodes b) (h : ∀ nodes' es' v, Grown nodes es 3 nodes' es' → Valid nodes' v → Q (.int v) (upd σ nl tl nodes' es')) : Cl prog w h₀ (n + 3) σ (.raw (.ref f)) [.obj x, .int s, .int a, .int b] Q := by
  have X' : FnAt h₀ f (dArgs (meth 7)) (dBody (meth 7)) (dScope (meth 7)) := X
  conv at X' => { arg 3; whnf }
  conv at X' => { arg 4; whnf }
  conv at X' => { arg 5; whnf }
  refine Cl_def (names := ["self", "s", "a", "b"]) C.top X' ?_ ?_ ?_
  · intro _ _ _ _ _ _ _ vals hl
    match vals, hl with
    | [a, b, c, d], _ => rfl
  · rfl
  intro qual cdv L hL hL0
  clear X'
  obtain ⟨fl, M⟩ := c.land
  obtain ⟨fo, Mo⟩ := c.lor
  refine Exs_cons (Ex_if ?_)
  repeat walk_at "m E"
  cases hab : a == b with
  | true =>
    refine if_t rfl ?_
    repeat walk_at "m E"
    have := h nodes es a (.refl ok) ha
    rw [upd_self g] at this
    exact this
  | false =>
    refine if_f rfl (Exs_nil ?_)
    refine Exs_cons (Ex_ret ?_)
    refine Ev_mcall (pl := _) C.kin (Ev_local rfl rfl (Meth_inst C.kin g.gx g.gd rfl (c.cls.get _) Mo.find Mo.fn ⟨.inr Mo.keep, Evs_cons ?_⟩)) rfl
    refine Ev_mcall (pl := _) C.kin (Ev_local rfl rfl (Meth_inst C.kin g.gx g.gd rfl (c.cls.get _) M.find M.fn ⟨.inr M.keep, ?_⟩)) rfl
    repeat walk_at "m E"
    refine land_spec (n := n + 1) C c M.at' g ok (by omega) hs hb fun n₁ e₁ v₁ hg₁ hv₁ => ?_
    have g₁ := g.upd n₁ e₁
    repeat walk_at "m E"
    refine Ev_mcall (pl := _) C.kin (Ev_local rfl rfl (Meth_inst C.kin g₁.gx g₁.gd rfl (c.cls.get _) M.find M.fn ⟨.inr M.keep, ?_⟩)) rfl
    repeat walk_at "m E"
    have l₁ := hg₁.2.1
    have l₁' := hg₁.2.2
    refine land_spec (n := n + 1) C c M.at' g₁ hg₁.1 (by omega) (hs.more l₁).xor (ha.more l₁) fun n₂ e₂ v₂ hg₂ hv₂ => ?_
    have g₂ := g₁.upd n₂ e₂
    have l₂ := hg₂.2.1
    have l₂' := hg₂.2.2
    repeat walk_at "m E"
    refine lor_spec (n := n) C c Mo.at' g₂ hg₂.1 (by omega) (hv₁.more l₂) hv₂ fun n₃ e₃ v₃ hg₃ hv₃ => ?_
    rw [upd_upd g.nt, upd_upd g.nt]
    exact h _ _ _ ((hg₁.trans hg₂).trans hg₃) hv₃

theorem init_spec (C : Cx h₀ mg mb K fs) (c : ClsX h₀ K fs) {f x d : Addr} {Q : AV → AS → Prop} (X : Fn h₀ f (meth 0)) (hx : σ x = some (.inst fs.Aig d)) (hd : σ d = some (.ns []))
    (h : ∀ nl il ol tl σ', (∀ b o, b ≠ d → σ b = some o → σ' b = some o) → Gr σ' x fs.Aig d nl il ol tl [none] [] [] → σ nl = none → σ il = none → σ tl = none → Q .none σ') : Cd prog w h₀ (n + 1) σ (.raw (.ref f)) [.obj x] Q := by
  have X' : FnAt h₀ f (dArgs (meth 0)) (dBody (meth 0)) (dScope (meth 0)) := X
  conv at X' => { arg 3; whnf }
  conv at X' => { arg 4; whnf }
  conv at X' => { arg 5; whnf }
  refine Cd_def (names := ["self"]) C.top X' ?_ ?_ ?_
  · intro _ _ _ _ _ _ _ vals hl
    match vals, hl with
    | [a], _ => rfl
  · rfl
  intro qual cdv L hL hL0
  clear X'
  have hxd : x ≠ d := fun e => by rw [e, hd] at hx; cases hx
  refine Exs_cons (Ex_setattr C.kin (Ev_list (Evs_cons ?_)))
  repeat walk_at "m E"
  refine ⟨Nat.le_of_ble_eq_true rfl, fun nl hnl hnl0 => ?_⟩
  have nx : nl ≠ x := fun e => by rw [e, hx] at hnl; cases hnl
  have nd : nl ≠ d := fun e => by rw [e, hd] at hnl; cases hnl
  repeat walk_at "m E"
  refine ⟨x, fs.Aig, d, [], rfl, c.sets _ (.inl rfl), AS.get1 (Ne.symm nx) hx, AS.get1 (Ne.symm nd) hd, by decide, ?_⟩
  have le1 : ∀ b o, b ≠ d → σ b = some o → ((σ.set nl (.list [.none])).set d (.ns [("nodes", .obj nl)])) b = some o := fun b o q e => AS.get1 q (AS.get1 (AS.ne e hnl) e)
  have d1 : ((σ.set nl (.list [.none])).set d (.ns [("nodes", .obj nl)])) d = some (.ns [("nodes", .obj nl)]) := AS.set_same ..
  have n1 : ((σ.set nl (.list [.none])).set d (.ns [("nodes", .obj nl)])) nl = some (.list [.none]) := AS.get1 nd (AS.set_same ..)
  have x1 := le1 _ _ hxd hx
  show Exs _ _ _ _ _ _ _ _ _
  generalize hσ1 : (σ.set nl (.list [.none])).set d (.ns [("nodes", .obj nl)]) = σ₁ at le1 d1 n1 x1
  have u1 : ∀ b, σ₁ b = none → σ b = none := fun b e => by
    cases q : σ b with
    | none => rfl
    | some o =>
      by_cases z : b = d
      · rw [z, d1] at e; cases e
      · rw [le1 b o z q] at e; cases e
  refine Exs_cons (Ex_setattr C.kin (Ev_list (Evs_nil ⟨Nat.le_of_ble_eq_true rfl, fun il hil hil0 => ?_⟩)))
  have ix : il ≠ x := fun e => by rw [e, x1] at hil; cases hil
  have id' : il ≠ d := fun e => by rw [e, d1] at hil; cases hil
  have inl : nl ≠ il := fun e => by rw [← e, n1] at hil; cases hil
  repeat walk_at "m E"
  refine ⟨x, fs.Aig, d, _, rfl, c.sets _ (.inr (.inl rfl)), AS.get1 (Ne.symm ix) x1, AS.get1 (Ne.symm id') d1, Nat.le_of_ble_eq_true rfl, ?_⟩
  have le2 : ∀ b o, b ≠ d → σ b = some o → ((σ₁.set il (.list [])).set d (.ns [("inputs", .obj il), ("nodes", .obj nl)])) b = some o := fun b o q e => AS.get1 q (AS.get1 (AS.ne (le1 b o q e) hil) (le1 b o q e))
  have d2 : ((σ₁.set il (.list [])).set d (.ns [("inputs", .obj il), ("nodes", .obj nl)])) d = some (.ns [("inputs", .obj il), ("nodes", .obj nl)]) := AS.set_same ..
  have n2 : ((σ₁.set il (.list [])).set d (.ns [("inputs", .obj il), ("nodes", .obj nl)])) nl = some (.list [.none]) := AS.get1 nd (AS.get1 inl n1)
  have i2 : ((σ₁.set il (.list [])).set d (.ns [("inputs", .obj il), ("nodes", .obj nl)])) il = some (.list []) := AS.get1 id' (AS.set_same ..)
  have x2 := le2 _ _ hxd hx
  have hilσ := u1 il hil
  show Exs _ _ _ _ _ _ _ _ _
  generalize hσ2 : (σ₁.set il (.list [])).set d (.ns [("inputs", .obj il), ("nodes", .obj nl)]) = σ₂ at le2 d2 n2 i2 x2
  have u2 : ∀ b, σ₂ b = none → σ b = none := fun b e => by
    cases q : σ b with
    | none => rfl
    | some o =>
      by_cases z : b = d
      · rw [z, d2] at e; cases e
      · rw [le2 b o z q] at e; cases e
  refine Exs_cons (Ex_setattr C.kin (Ev_list (Evs_nil ⟨Nat.le_of_ble_eq_true rfl, fun ol hol hol0 => ?_⟩)))
  have ox : ol ≠ x := fun e => by rw [e, x2] at hol; cases hol
  have od : ol ≠ d := fun e => by rw [e, d2] at hol; cases hol
  have onl : nl ≠ ol := fun e => by rw [← e, n2] at hol; cases hol
  have oil : il ≠ ol := fun e => by rw [← e, i2] at hol; cases hol
  repeat walk_at "m E"
  refine ⟨x, fs.Aig, d, _, rfl, c.sets _ (.inr (.inr (.inl rfl))), AS.get1 (Ne.symm ox) x2, AS.get1 (Ne.symm od) d2, Nat.le_of_ble_eq_true rfl, ?_⟩
  have le3 : ∀ b o, b ≠ d → σ b = some o → ((σ₂.set ol (.list [])).set d (.ns [("outputs", .obj ol), ("inputs", .obj il), ("nodes", .obj nl)])) b = some o := fun b o q e => AS.get1 q (AS.get1 (AS.ne (le2 b o q e) hol) (le2 b o q e))
  have d3 : ((σ₂.set ol (.list [])).set d (.ns [("outputs", .obj ol), ("inputs", .obj il), ("nodes", .obj nl)])) d = some (.ns [("outputs", .obj ol), ("inputs", .obj il), ("nodes", .obj nl)]) := AS.set_same ..
  have n3 : ((σ₂.set ol (.list [])).set d (.ns [("outputs", .obj ol), ("inputs", .obj il), ("nodes", .obj nl)])) nl = some (.list [.none]) := AS.get1 nd (AS.get1 onl n2)
  have i3 : ((σ₂.set ol (.list [])).set d (.ns [("outputs", .obj ol), ("inputs", .obj il), ("nodes", .obj nl)])) il = some (.list []) := AS.get1 id' (AS.get1 oil i2)
  have x3 := le3 _ _ hxd hx
  show Exs _ _ _ _ _ _ _ _ _
  generalize hσ3 : (σ₂.set ol (.list [])).set d (.ns [("outputs", .obj ol), ("inputs", .obj il), ("nodes", .obj nl)]) = σ₃ at le3 d3 n3 i3 x3
  have u3 : ∀ b, σ₃ b = none → σ b = none := fun b e => by
    cases q : σ b with
    | none => rfl
    | some o =>
      by_cases z : b = d
      · rw [z, d3] at e; cases e
      · rw [le3 b o z q] at e; cases e
  refine Exs_cons (Ex_setattr C.kin (Ev_dict0 C.top fun tl htl htl0 hsys => ?_))
  have tx : tl ≠ x := fun e => by rw [e, x3] at htl; cases htl
  have td : tl ≠ d := fun e => by rw [e, d3] at htl; cases htl
  have tnl : nl ≠ tl := fun e => by rw [← e, n3] at htl; cases htl
  have til : il ≠ tl := fun e => by rw [← e, i3] at htl; cases htl
  repeat walk_at "m E"
  refine ⟨x, fs.Aig, d, _, rfl, c.sets _ (.inr (.inr (.inr rfl))), AS.get1 (Ne.symm tx) x3, AS.get1 (Ne.symm td) d3, Nat.le_of_ble_eq_true rfl, ?_⟩
  refine Exs_nil ?_
  refine h nl il ol tl _ (fun b o q e => AS.get1 q (AS.get1 (AS.ne (le3 b o q e) htl) (le3 b o q e))) ⟨AS.get1 hxd (AS.get1 (Ne.symm tx) x3), AS.set_same .., AS.get1 nd (AS.get1 tnl n3), AS.get1 id' (AS.get1 til i3), AS.get1 td (AS.set_same ..), inl, hsys⟩ hnl hilσ (u3 tl htl)
end
-- Pr11
structure GS (C : Addr) (σ₀ σ : AS) (H cells : Addr) (len : Nat) (x d nl il ol tl kn : Addr) (nodes : List Nd) (ins : List AV) (es : List (List Int × Int)) (ks : List Int) : Prop where
  le : ∀ b o, b ≠ H → σ₀ b = some o → σ b = some o
  hand : ∃ hs, σ H = some (.list hs) ∧ HandV cells len hs
  gr : Gr σ x C d nl il ol tl nodes ins es
  known : σ kn = some (.list (ks.map .int))
  nn : σ₀ nl = none
  ni : σ₀ il = none
  nt : σ₀ tl = none
  nk : σ₀ kn = none
  kn1 : kn ≠ nl
  kn2 : kn ≠ il
  h0 : σ₀ H ≠ none
  ok : GOk nodes es
  kv : ∀ l ∈ ks, Valid nodes l

section
variable {C : Addr} {σ₀ σ : AS} {H cells : Addr} {len : Nat} {x d nl il ol tl kn : Addr} {nodes : List Nd} {ins : List AV} {es : List (List Int × Int)} {ks : List Int}

theorem ne_of {σ : AS} {a b : Addr} {o : AO} (ha : σ a = none) (hb : σ b = some o) : b ≠ a := fun e => by rw [e, ha] at hb; cases hb
theorem GS.hne (g : GS C σ₀ σ H cells len x d nl il ol tl kn nodes ins es ks) : nl ≠ H ∧ il ≠ H ∧ tl ≠ H ∧ kn ≠ H :=
  ⟨fun e => g.h0 (e ▸ g.nn), fun e => g.h0 (e ▸ g.ni), fun e => g.h0 (e ▸ g.nt), fun e => g.h0 (e ▸ g.nk)⟩
theorem GS.hx (g : GS C σ₀ σ H cells len x d nl il ol tl kn nodes ins es ks) : x ≠ H ∧ d ≠ H ∧ kn ≠ x ∧ kn ≠ d ∧ kn ≠ tl := by
  obtain ⟨hs, h1, h2⟩ := g.hand
  have k : ∀ {a b : Addr} {o o' : AO}, σ a = some o → σ b = some o' → o ≠ o' → a ≠ b := fun ha hb ne e => by rw [e, hb] at ha; exact ne (Option.some.inj ha).symm
  exact ⟨k g.gr.gx h1 (by intro e; cases e), k g.gr.gd h1 (by intro e; cases e), k g.known g.gr.gx (by intro e; cases e), k g.known g.gr.gd (by intro e; cases e), k g.known g.gr.gt (by intro e; cases e)⟩

theorem GS.setH (g : GS C σ₀ σ H cells len x d nl il ol tl kn nodes ins es ks) {hs : List AV} (h : HandV cells len hs) : GS C σ₀ (σ.set H (.list hs)) H cells len x d nl il ol tl kn nodes ins es ks := by
  obtain ⟨a1, a2, a3, a4⟩ := g.hne
  obtain ⟨b1, b2, b3, b4, b5⟩ := g.hx
  exact { g with le := fun b o q e => AS.get1 q (g.le b o q e), hand := ⟨hs, AS.set_same .., h⟩, gr := ⟨AS.get1 b1 g.gr.gx, AS.get1 b2 g.gr.gd, AS.get1 a1 g.gr.gn, AS.get1 a2 g.gr.gi, AS.get1 a3 g.gr.gt, g.gr.ne, g.gr.nm⟩, known := AS.get1 a4 g.known }
theorem GS.setK (g : GS C σ₀ σ H cells len x d nl il ol tl kn nodes ins es ks) {ks' : List Int} (h : ∀ l ∈ ks', Valid nodes l) : GS C σ₀ (σ.set kn (.list (ks'.map .int))) H cells len x d nl il ol tl kn nodes ins es ks' := by
  obtain ⟨a1, a2, a3, a4⟩ := g.hne
  obtain ⟨b1, b2, b3, b4, b5⟩ := g.hx
  obtain ⟨hs, h1, h2⟩ := g.hand
  exact { g with le := fun b o q e => AS.get1 (ne_of g.nk e) (g.le b o q e), hand := ⟨hs, AS.get1 (Ne.symm a4) h1, h2⟩, gr := ⟨AS.get1 (Ne.symm b3) g.gr.gx, AS.get1 (Ne.symm b4) g.gr.gd, AS.get1 (Ne.symm g.kn1) g.gr.gn, AS.get1 (Ne.symm g.kn2) g.gr.gi, AS.get1 (Ne.symm b5) g.gr.gt, g.gr.ne, g.gr.nm⟩, known := AS.set_same .., kv := h }
theorem GS.setN (g : GS C σ₀ σ H cells len x d nl il ol tl kn nodes ins es ks) {a : Addr} (o : AO) (h : σ a = none) : GS C σ₀ (σ.set a o) H cells len x d nl il ol tl kn nodes ins es ks := by
  obtain ⟨hs, h1, h2⟩ := g.hand
  exact { g with le := fun b o q e => AS.get1 (ne_of h (g.le b o q e)) (g.le b o q e), hand := ⟨hs, AS.get1 (ne_of h h1) h1, h2⟩, gr := ⟨AS.get1 (ne_of h g.gr.gx) g.gr.gx, AS.get1 (ne_of h g.gr.gd) g.gr.gd, AS.get1 (ne_of h g.gr.gn) g.gr.gn, AS.get1 (ne_of h g.gr.gi) g.gr.gi, AS.get1 (ne_of h g.gr.gt) g.gr.gt, g.gr.ne, g.gr.nm⟩, known := AS.get1 (ne_of h g.known) g.known }
theorem GS.grow (g : GS C σ₀ σ H cells len x d nl il ol tl kn nodes ins es ks) {n' : List Nd} {e' : List (List Int × Int)} (h : GOk n' e') (hl : nodes.length ≤ n'.length) : GS C σ₀ (upd σ nl tl n' e') H cells len x d nl il ol tl kn n' ins e' ks := by
  obtain ⟨a1, a2, a3, a4⟩ := g.hne
  obtain ⟨b1, b2, b3, b4, b5⟩ := g.hx
  obtain ⟨hs, h1, h2⟩ := g.hand
  exact { g with le := fun b o q e => AS.get1 (ne_of g.nt e) (AS.get1 (ne_of g.nn e) (g.le b o q e)), hand := ⟨hs, AS.get1 (Ne.symm a3) (AS.get1 (Ne.symm a1) h1), h2⟩, gr := g.gr.upd n' e', known := AS.get1 b5 (AS.get1 g.kn1 g.known), ok := h, kv := fun l q => (g.kv l q).more hl }
theorem GS.input (g : GS C σ₀ σ H cells len x d nl il ol tl kn nodes ins es ks) (hn : nodes.length < 1000) (v : AV) : GS C σ₀ ((σ.set nl (.list ((nodes ++ [none]).map ndAV))).set il (.list (ins ++ [v]))) H cells len x d nl il ol tl kn (nodes ++ [none]) (ins ++ [v]) es ks := by
  obtain ⟨a1, a2, a3, a4⟩ := g.hne
  obtain ⟨b1, b2, b3, b4, b5⟩ := g.hx
  obtain ⟨h1, h2, h3, h4, h5, h6, h7⟩ := g.gr.nx
  obtain ⟨hs, g1, g2⟩ := g.hand
  have hl : (nodes ++ [(none : Nd)]).length = nodes.length + 1 := by rw [List.length_append, List.length_singleton]
  refine { g with le := fun b o q e => AS.get1 (ne_of g.ni e) (AS.get1 (ne_of g.nn e) (g.le b o q e)), hand := ⟨hs, AS.get1 (Ne.symm a2) (AS.get1 (Ne.symm a1) g1), g2⟩, gr := ⟨AS.get1 (Ne.symm h5) (AS.get1 (Ne.symm h1) g.gr.gx), AS.get1 (Ne.symm h6) (AS.get1 (Ne.symm h2) g.gr.gd), AS.get1 g.gr.ne (AS.set_same ..), AS.set_same .., AS.get1 (Ne.symm h7) (AS.get1 (Ne.symm g.gr.nt) g.gr.gt), g.gr.ne, g.gr.nm⟩, known := AS.get1 g.kn2 (AS.get1 g.kn1 g.known), ok := ⟨fun k l r e => ?_, ?_, fun p hp => ?_, by omega, ?_⟩, kv := fun l q => (g.kv l q).more (by omega) }
  · by_cases q : k < nodes.length
    · rw [List.getElem?_append_left q] at e; exact g.ok.topo k l r e
    · have hk : k = nodes.length := by
        have := (List.getElem?_eq_some_iff.mp e).1
        omega
      subst hk
      rw [List.getElem?_append_right (Nat.le_refl _), Nat.sub_self] at e
      simp at e
  · rw [List.getElem?_append_left g.ok.pos]; exact g.ok.zero
  · have := g.ok.tab p hp; rw [hl]; exact ⟨this.1, by push_cast; omega⟩
  · have := g.ok.tlen; omega
end

section
variable {prog : Program} {w : World} {h₀ : Heap} {n : Nat} {σ : AS} {mg mb : Str → Option Value} {K : Frag} {fs : FA} {env : Env} {ρ : Rho}

structure FnX (h₀ : Heap) (K : Frag) (mg : Str → Option Value) (f : Addr) (name : Str) (st : Stmt) : Prop where
  at' : Fn h₀ f st
  glob : mg name = some (.ref f)
  keep : keepIn K (.ref f) = true

theorem elt_spec (C : Cx h₀ mg mb K fs) {fp : Addr} (P : FnX h₀ K mg fp "_law_pick" (stAt 17)) {σ₀ : AS} {H cells x d nl il ol tl kn : Addr} {ns : List Int} {nodes : List Nd} {ins : List AV} {es : List (List Int × Int)} {ks : List Int} {k : Int} {Q : AV → AS → Prop} {ck ch : Addr}
    {p1 p2 p3 p4 p5 p6 p7 p8 p9 p10 p11 p12 p13 p14 p15 p16 p17 p18 p19 : Pos} {c1 c2 c3 : Nat} (g : GS fs.Aig σ₀ σ H cells ns.length x d nl il ol tl kn nodes ins es ks) (hc : σ cells = some (.list (ns.map .int))) (hn : ns.length ≤ 63) (hk1 : 1 ≤ k) (hk2 : k ≤ 100) (hks : 1 ≤ ks.length) (hks2 : ks.length ≤ 100)
    (r1 : ρ "known" = some (.obj kn)) (r2 : ρ "hand" = some (.obj H)) (e1 : env.kindOf "known" = some .cell) (e2 : env.cells.lookup (Str.ofString "known") = some ck) (e3 : env.kindOf "hand" = some .cell) (e4 : env.cells.lookup (Str.ofString "hand") = some ch)
    (e5 : env.kindOf "_law_pick" = some .globalImplicit) (e6 : env.kindOf "min" = some .globalImplicit) (e7 : env.kindOf "len" = some .globalImplicit)
    (h : ∀ v hs', Valid nodes v → HandV cells ns.length hs' → Q (.int v) (σ.set H (.list hs'))) :
    Ev prog w h₀ (n + 1) env ρ σ (.BinOp (.Subscript (.Name "known" p1) (.BinOp (.UnaryOp .USub (.Constant (.int 1) c1 p2) p3) .Sub (.Call (.Name "_law_pick" p4) [.Name "hand" p5, .Call (.Name "min" p6) [.Call (.Name "len" p7) [.Name "known" p8] [] p9, .Constant (.int k) c2 p10] [] p11] [] p12) p13) p14) .BitXor (.Call (.Name "_law_pick" p15) [.Name "hand" p16, .Constant (.int 2) c3 p17] [] p18) p19) Q := by
  obtain ⟨hs, w1, w2⟩ := g.hand
  obtain ⟨a1, a2, a3, a4⟩ := g.hne
  have hcH : cells ≠ H := fun e => by
    rw [e, w1] at hc
    obtain ⟨i, k, seed, rfl, _⟩ := w2
    cases ns with
    | nil => simp at hc
    | cons a ns => simp at hc
  refine Ev_bin (Ev_sub (Ev_cell r1 e1 e2 ?_))
  refine Ev_bin (Ev_un (Ev_int (Un_neg ?_)))
  refine Ev_callK C.kin (Ev_global C.top P.glob e5 ⟨_, rfl, P.keep, Evs_cons (Ev_cell r2 e3 e4 (Evs_cons ?_))⟩)
  refine Ev_callv (Ev_builtin C.top C.nmin rfl e6 ⟨_, rfl, rfl, Evs_cons ?_⟩)
  refine Ev_callv (Ev_builtin C.top C.nlen rfl e7 ⟨_, rfl, rfl, Evs_cons (Ev_cell r1 e1 e2 (Evs_nil (Cl_lenlist g.known (by rw [List.length_map]; omega) ?_)))⟩)
  rw [List.length_map]
  refine Evs_cons (Ev_int (Evs_nil (Cl_min (Evs_nil ?_))))
  refine pick_spec C P.at' (by split <;> omega) (by split <;> omega) hc hn w1 w2 fun r hs1 hr0 hr1 hv1 => ?_
  refine Bin_sub ?_
  have g1 := g.setH hv1
  have hlt : r < ks.length := by split at hr1 <;> omega
  obtain ⟨v, hv⟩ : ∃ v, ks[(-1 - r + ks.length).toNat]? = some v := ⟨_, List.getElem?_eq_getElem (by omega)⟩
  have hvv := g.kv v (List.mem_of_getElem? hv)
  refine ⟨kn, _, _, .int v, rfl, rfl, g1.known, ⟨by omega, by omega, .inr ⟨by omega, by rw [List.length_map]; omega, by rw [List.length_map, List.getElem?_map, hv]; rfl⟩⟩, ?_⟩
  refine Ev_callK C.kin (Ev_global C.top P.glob e5 ⟨_, rfl, P.keep, Evs_cons (Ev_cell r2 e3 e4 (Evs_cons (Ev_int (Evs_nil ?_))))⟩)
  refine pick_spec C P.at' (by decide) (by decide) (AS.get1 hcH hc) hn (AS.set_same ..) hv1 fun r' hs2 hr0' hr1' hv2 => ?_
  rw [AS.set_set]
  have hr : r' = 0 ∨ r' = 1 := by omega
  rcases hr with rfl | rfl
  · refine Bin_xor ?_
    rw [bitXor_zero]
    exact h _ _ hvv hv2
  · exact Bin_xor (h _ _ hvv.xor hv2)

theorem graph_spec (C : Cx h₀ mg mb K fs) (c : ClsX h₀ K fs) (cg : mg "Aig" = some (.ref fs.Aig)) {f fp : Addr} (X : Fn h₀ f (stAt 19)) (P : FnX h₀ K mg fp "_law_pick" (stAt 17)) {H cells : Addr} {ns : List Int} {hs : List AV} {many : Nat} {Q : AV → AS → Prop}
    (hm : many ≤ 3) (hc : σ cells = some (.list (ns.map .int))) (hn : ns.length ≤ 63) (hH : σ H = some (.list hs)) (hv : HandV cells ns.length hs)
    (h : ∀ σ' x d nl il ol tl kn nodes ins es ks, GS fs.Aig σ σ' H cells ns.length x d nl il ol tl kn nodes ins es ks → nodes.length ≤ 10 → 1 ≤ ks.length → ks.length ≤ 6 → Q (.tup [.obj x, .obj kn]) σ') :
    Cl prog w h₀ (n + 4) σ (.raw (.ref f)) [.obj H, .int many, .int 2] Q := by
  have X' : FnAt h₀ f (dArgs (stAt 19)) (dBody (stAt 19)) (dScope (stAt 19)) := X
  conv at X' => { arg 3; whnf }
  conv at X' => { arg 4; whnf }
  conv at X' => { arg 5; whnf }
  refine Cl_def (names := ["hand", "many", "most"]) C.top X' ?_ ?_ ?_
  · intro _ _ _ _ _ _ _ vals hl
    match vals, hl with
    | [a, b, c], _ => rfl
  · rfl
  intro qual cdv L hL hL0
  clear X'
  have hHn : σ H ≠ none := by rw [hH]; intro e; cases e
  have hcH : cells ≠ H := fun e => by
    rw [e, hH] at hc
    obtain ⟨i, k, seed, rfl, _⟩ := hv
    cases ns with
    | nil => simp at hc
    | cons a ns => simp at hc
  obtain ⟨fi, fi1, fi2, fi3⟩ := c.init
  obtain ⟨fa, Ma⟩ := c.add_input
  refine Exs_cons (Ex_assign ?_ (.inl rfl))
  refine Ev_callK0 C.kin (Ev_global C.top cg rfl ⟨_, rfl, c.keep, Cl_make C.kin c.make fi1 fi2 fun x d hx hd hxd hx0 hd0 => ?_⟩)
  refine init_spec C c fi3 (AS.set_same ..) (AS.get1 (Ne.symm hxd) (AS.set_same ..)) fun nl il ol tl σ₁ hle hgr hnl hil htl => ⟨rfl, ?_⟩
  have s0 : ∀ b, ((σ.set d (.ns [])).set x (.inst fs.Aig d)) b = none → σ b = none := fun b e => (AS.get0 (AS.get0 e).1).1
  have hle1 : ∀ b o, b ≠ H → σ b = some o → σ₁ b = some o := fun b o _ e => hle b o (ne_of hd e) (AS.get1 (ne_of hx e) (AS.get1 (ne_of hd e) e))
  have hH1 : σ₁ H = some (.list hs) := hle H _ (ne_of hd hH) (AS.get1 (ne_of hx hH) (AS.get1 (ne_of hd hH) hH))
  refine Exs_cons (Ex_assign (Ev_list (Evs_cons (Ev_int (Evs_nil ⟨Nat.le_of_ble_eq_true rfl, fun kn hkn hkn0 => ?_⟩)))) (.inr ⟨rfl, rfl⟩))
  have hknσ : σ kn = none := by
    cases e : σ kn with
    | none => rfl
    | some o =>
      by_cases q : kn = H
      · rw [q, hH1] at hkn; cases hkn
      · rw [hle1 kn o q e] at hkn; cases hkn
  have g0 : GS fs.Aig σ (σ₁.set kn (.list [.int 0])) H cells ns.length x d nl il ol tl kn [none] [] [] [0] :=
    { le := fun b o q e => AS.get1 (ne_of hkn (hle1 b o q e)) (hle1 b o q e), hand := ⟨hs, AS.get1 (ne_of hkn hH1) hH1, hv⟩, gr := ⟨AS.get1 (ne_of hkn hgr.gx) hgr.gx, AS.get1 (ne_of hkn hgr.gd) hgr.gd, AS.get1 (ne_of hkn hgr.gn) hgr.gn, AS.get1 (ne_of hkn hgr.gi) hgr.gi, AS.get1 (ne_of hkn hgr.gt) hgr.gt, hgr.ne, hgr.nm⟩, known := AS.set_same .., nn := s0 _ hnl, ni := s0 _ hil, nt := s0 _ htl, nk := hknσ, kn1 := Ne.symm (ne_of hkn hgr.gn), kn2 := Ne.symm (ne_of hkn hgr.gi), h0 := hHn, ok := ⟨fun k l r e => (by cases k <;> simp at e), rfl, fun p hp => (nomatch hp), by decide, by decide⟩, kv := fun l hl => by rw [List.mem_singleton.mp hl]; exact .zero (by decide) }
  dsimp only
  generalize (σ₁.set kn (.list [.int 0])) = σ₂ at g0
  generalize hρ : ((bindA ["hand", "many", "most"] [.obj H, .int many, .int 2] fun _ => none).set "aig" (.obj x)).set "known" (.obj kn) = ρ₀
  have r1 : ρ₀ "hand" = some (.obj H) := by rw [← hρ]; rfl
  have r2 : ρ₀ "many" = some (.int many) := by rw [← hρ]; rfl
  have r3 : ρ₀ "most" = some (.int 2) := by rw [← hρ]; rfl
  have r4 : ρ₀ "aig" = some (.obj x) := by rw [← hρ]; rfl
  have r5 : ρ₀ "known" = some (.obj kn) := by rw [← hρ]; rfl
  -- the inputs
  refine Exs_cons (Ex_for (fun i vs ρ' σ' => Same ["_"] ρ₀ ρ' ∧ ∃ nodes ins es ks, GS fs.Aig σ σ' H cells ns.length x d nl il ol tl kn nodes ins es ks ∧ nodes.length = 1 + i ∧ ins.length = i ∧ ks.length = 1 + i)
    (EvIt_range (Ev_builtin C.top C.nrange rfl rfl ⟨rfl, Ev_local r2 rfl ⟨many, rfl, by omega, by omega, ⟨.refl, _, _, _, _, g0, rfl, rfl, rfl⟩, fun _ _ _ _ _ => trivial, ?_, ?_⟩⟩)))
  · rintro i v ρ' σ' hv ⟨hS, nodes, ins, es, ks, g, l1, l2, l3⟩
    obtain ⟨hi, rfl⟩ := rng_get hv
    have hi' : i < many := by simpa using hi
    have g5 := g.gr
    refine As_name (.inl rfl) (Exs_cons (Ex_append (pl := _) C.kin (Ev_cell (Rho.skip (hS.get r5)) rfl rfl ⟨kn, _, rfl, g.known, ?_⟩)))
    refine Ev_mcall0 (pl := _) C.kin (Ev_local (Rho.skip (hS.get r4)) rfl (Meth_inst C.kin g5.gx g5.gd rfl (c.cls.get _) Ma.find Ma.fn ⟨.inr Ma.keep, ?_⟩)) rfl
    refine add_input_spec (n := n + 2) C c Ma.at' g5 (by omega) (by omega) ?_
    have g1 := g.input (by omega) (.int nodes.length)
    refine ⟨_, g1.known, by rw [List.length_map, sizeLine_eq]; omega, ?_⟩
    have e1 : (ks.map AV.int) ++ [AV.int (2 * (nodes.length : Int))] = (ks ++ [2 * (nodes.length : Int)]).map AV.int := by rw [List.map_append]; rfl
    rw [e1]
    have hl : (nodes ++ [(none : Nd)]).length = nodes.length + 1 := by rw [List.length_append, List.length_singleton]
    refine Exs_nil ⟨hS.set, _, _, _, _, g1.setK (ks' := ks ++ [2 * (nodes.length : Int)]) (fun l hl' => ?_), by omega, by rw [List.length_append, List.length_singleton]; omega, by rw [List.length_append, List.length_singleton]; omega⟩
    rcases List.mem_append.mp hl' with q | q
    · exact g1.kv l q
    · rw [List.mem_singleton.mp q]
      refine ⟨by omega, ?_⟩
      rw [half_eq, hl]; push_cast; omega
  · rintro ρ₁ σ₃ ⟨hS, nodes, ins, es, ks, g, l1, l2, l3⟩
    rw [rng_length] at l1 l2 l3
    simp only [Int.toNat_natCast] at l1 l2 l3
    have t1 := hS.get r1
    have t3 := hS.get r3
    have t4 := hS.get r4
    have t5 := hS.get r5
    obtain ⟨hs1, w1, w2⟩ := g.hand
    have hcells : ∀ {σ'} {nodes ins es ks}, GS fs.Aig σ σ' H cells ns.length x d nl il ol tl kn nodes ins es ks → σ' cells = some (.list (ns.map .int)) := fun g => g.le _ _ hcH hc
    refine Exs_cons (Ex_forX (EvIt_range (Ev_builtin C.top C.nrange rfl rfl ⟨rfl, Ev_callK C.kin (Ev_global C.top P.glob rfl ⟨_, rfl, P.keep, Evs_cons (Ev_cell t1 rfl rfl (Evs_cons ?_))⟩)⟩)))
    repeat walk_at "m E"
    refine pick_spec (n := n + 2) C P.at' (by decide) (by decide) (hcells g) hn w1 w2 fun r hs' hr0 hr1 hv' => ?_
    refine ⟨r, rfl, by omega, by omega, fun i ρ' σ' => Same ["_", "kind", "parts"] ρ₁ ρ' ∧ ∃ nodes ins es ks, GS fs.Aig σ σ' H cells ns.length x d nl il ol tl kn nodes ins es ks ∧ nodes.length ≤ 4 + 3 * i ∧ 1 ≤ ks.length ∧ ks.length ≤ 4 + i, ⟨.refl, _, _, _, _, g.setH hv', by omega, by omega, by omega⟩, fun _ _ _ _ _ => trivial, ?_, ?_⟩
    · rintro i v ρ' σ' hv ⟨hS', nodes, ins, es, ks, g, l1, l2, l3⟩
      obtain ⟨hi, rfl⟩ := rng_get hv
      have hi' : i < 2 := by omega
      have u1 := hS'.get t1
      have u4 := hS'.get t4
      have u5 := hS'.get t5
      obtain ⟨hs2, w3, w4⟩ := g.hand
      refine As_name (.inl rfl) (Exs_hide fun QQ kQ => Exs_cons (Ex_assign ?_ (.inl rfl)))
      refine Ev_callK C.kin (Ev_global C.top P.glob rfl ⟨_, rfl, P.keep, Evs_cons (Ev_cell (Rho.skip u1) rfl rfl (Evs_cons ?_))⟩)
      repeat walk_at "m E"
      refine pick_spec (n := n + 2) C P.at' (by decide) (by decide) (hcells g) hn w3 w4 fun kind hs3 hk0 hk1 hv3 => ?_
      have g1 := g.setH hv3
      obtain ⟨fl, Ml⟩ := c.land
      obtain ⟨fo, Mo⟩ := c.lor
      obtain ⟨fm, Mm⟩ := c.lmux
      refine Exs_cons (Ex_assign_comp (fun j acc σ'' => ∃ vs : List Int, acc = vs.map .int ∧ vs.length = j ∧ (∀ v ∈ vs, Valid nodes v) ∧ GS fs.Aig σ σ'' H cells ns.length x d nl il ol tl kn nodes ins es ks)
        (EvIt_range (Ev_builtin C.top C.nrange rfl rfl ⟨rfl, Ev_int ⟨3, rfl, by decide, by decide, ?_, ⟨[], rfl, rfl, fun _ h => (nomatch h), g1⟩, fun _ _ _ _ _ => trivial, ?_, ?_⟩⟩)))
      · rw [rng_length, sizeLine_eq]; decide
      · rintro Cc j v acc σ'' hv ⟨vs, rfl, rfl, hvs, g2⟩
        refine elt_spec (n := n + 2) C P g2 (hcells g2) hn (by decide) (by decide) l2 (by omega) (Rho.skip (inner_get (Rho.skip (Rho.skip u5)))) (Rho.skip (inner_get (Rho.skip (Rho.skip u1)))) rfl rfl rfl rfl rfl rfl rfl fun v hs' hval hh => ?_
        refine ⟨vs ++ [v], by rw [List.map_append]; rfl, by rw [List.length_append, List.length_singleton], fun z hz => ?_, g2.setH hh⟩
        rcases List.mem_append.mp hz with q | q
        · exact hvs z q
        · rw [List.mem_singleton.mp q]; exact hval
      · rintro D acc σ'' ⟨vs, rfl, hvl, hvs, g2⟩ hD hD0
        rw [rng_length] at hvl
        obtain ⟨v0, v1, v2, rfl⟩ : ∃ a b c, vs = [a, b, c] := by
          match vs, hvl with
          | [a, b, c], _ => exact ⟨a, b, c, rfl⟩
        have h0 := hvs v0 (by simp)
        have h1 := hvs v1 (by simp)
        have h2 := hvs v2 (by simp)
        have g3 := g2.setN (.list ([v0, v1, v2].map .int)) hD
        have gg := g3.gr
        have hDl : (σ''.set D (.list ([v0, v1, v2].map .int))) D = some (.list ([v0, v1, v2].map .int)) := AS.set_same ..
        have at' : ∀ (k : Nat) (v : Int), [v0, v1, v2][k]? = some v → seqAt ([v0, v1, v2].map AV.int) k (.int v) := fun k v e => seqAt_nat (by rw [List.getElem?_map, e]; rfl) (by show (3 : Nat) < _; decide)
        have hS3 : Same ["_", "kind", "parts"] ρ₁ (((ρ'.set "_" (.int (0 + (i : Int) * 1))).set "kind" (.int kind)).set "parts" (.obj D)) := ((hS'.set).set).set
        have k1 : (((ρ'.set "_" (.int (0 + (i : Int) * 1))).set "kind" (.int kind)).set "parts" (.obj D)) "kind" = some (.int kind) := rfl
        have k2 : (((ρ'.set "_" (.int (0 + (i : Int) * 1))).set "kind" (.int kind)).set "parts" (.obj D)) "parts" = some (.obj D) := rfl
        dsimp only
        generalize (((ρ'.set "_" (.int (0 + (i : Int) * 1))).set "kind" (.int kind)).set "parts" (.obj D)) = ρ₂ at hS3 k1 k2
        generalize (σ''.set D (.list ([v0, v1, v2].map .int))) = σ₄ at g3 gg hDl
        have y4 := hS3.get t4
        have y5 := hS3.get t5
        -- what comes when a literal is made
        have fin : ∀ nodes' es' v, Grown nodes es 3 nodes' es' → Valid nodes' v → ∃ l, (upd σ₄ nl tl nodes' es') kn = some (.list l) ∧ l.length ≤ sizeLine ∧ (Same ["_", "kind", "parts"] ρ₁ ρ₂ ∧ ∃ nodes ins es ks, GS fs.Aig σ ((upd σ₄ nl tl nodes' es').set kn (.list (l ++ [.int v]))) H cells ns.length x d nl il ol tl kn nodes ins es ks ∧ nodes.length ≤ 4 + 3 * (i + 1) ∧ 1 ≤ ks.length ∧ ks.length ≤ 4 + (i + 1)) := fun nodes' es' v hg hval => by
          have g4 := g3.grow hg.1 hg.2.1
          have := hg.2.2
          refine ⟨_, g4.known, by rw [List.length_map, sizeLine_eq]; omega, hS3, nodes', ins, es', ks ++ [v], ?_, by omega, by rw [List.length_append]; omega, by rw [List.length_append, List.length_singleton]; omega⟩
          have e : ks.map AV.int ++ [AV.int v] = (ks ++ [v]).map AV.int := by rw [List.map_append]; rfl
          rw [e]
          refine g4.setK fun z hz => ?_
          rcases List.mem_append.mp hz with q | q
          · exact g4.kv z q
          · rw [List.mem_singleton.mp q]; exact hval
        refine Exs_cons (Ex_if ?_)
        repeat walk_at "m E"
        cases hk : kind == 0 with
        | true =>
          refine if_t rfl ?_
          refine Exs_cons (Ex_append (pl := _) C.kin (Ev_cell y5 rfl rfl ⟨kn, _, rfl, g3.known, ?_⟩))
          refine Ev_mcall (pl := _) C.kin (Ev_local y4 rfl (Meth_inst C.kin gg.gx gg.gd rfl (c.cls.get _) Ml.find Ml.fn ⟨.inr Ml.keep, Evs_cons (Ev_sub ?_)⟩)) rfl
          repeat walk_at "m E"
          refine ⟨D, _, 0, _, rfl, rfl, hDl, at' 0 _ rfl, ?_⟩
          refine Evs_cons (Ev_sub ?_)
          repeat walk_at "m E"
          refine ⟨D, _, 1, _, rfl, rfl, hDl, at' 1 _ rfl, ?_⟩
          repeat walk_at "m E"
          refine land_spec (n := n + 2) C c Ml.at' gg g3.ok (by omega) h0 h1 fun n' e' v hg hval => ?_
          obtain ⟨l, f1, f2, f3⟩ := fin n' e' v (hg.more (by decide)) hval
          exact ⟨l, f1, f2, Exs_nil (Exs_nil (kQ _ _ _ f3))⟩
        | false =>
          refine if_f rfl ?_
          refine Exs_cons (Ex_if ?_)
          repeat walk_at "m E"
          cases hk' : kind == 1 with
          | true =>
            refine if_t rfl ?_
            refine Exs_cons (Ex_append (pl := _) C.kin (Ev_cell y5 rfl rfl ⟨kn, _, rfl, g3.known, ?_⟩))
            refine Ev_mcall (pl := _) C.kin (Ev_local y4 rfl (Meth_inst C.kin gg.gx gg.gd rfl (c.cls.get _) Mo.find Mo.fn ⟨.inr Mo.keep, Evs_cons (Ev_sub ?_)⟩)) rfl
            repeat walk_at "m E"
            refine ⟨D, _, 0, _, rfl, rfl, hDl, at' 0 _ rfl, ?_⟩
            refine Evs_cons (Ev_sub ?_)
            repeat walk_at "m E"
            refine ⟨D, _, 1, _, rfl, rfl, hDl, at' 1 _ rfl, ?_⟩
            repeat walk_at "m E"
            refine lor_spec (n := n + 1) C c Mo.at' gg g3.ok (by omega) h0 h1 fun n' e' v hg hval => ?_
            obtain ⟨l, f1, f2, f3⟩ := fin n' e' v (hg.more (by decide)) hval
            exact ⟨l, f1, f2, Exs_nil (Exs_nil (Exs_nil (kQ _ _ _ f3)))⟩
          | false =>
            refine if_f rfl ?_
            refine Exs_cons (Ex_append (pl := _) C.kin (Ev_cell y5 rfl rfl ⟨kn, _, rfl, g3.known, ?_⟩))
            refine Ev_mcall (pl := _) C.kin (Ev_local y4 rfl (Meth_inst C.kin gg.gx gg.gd rfl (c.cls.get _) Mm.find Mm.fn ⟨.inr Mm.keep, Evs_cons (Ev_sub ?_)⟩)) rfl
            repeat walk_at "m E"
            refine ⟨D, _, 0, _, rfl, rfl, hDl, at' 0 _ rfl, ?_⟩
            refine Evs_cons (Ev_sub ?_)
            repeat walk_at "m E"
            refine ⟨D, _, 1, _, rfl, rfl, hDl, at' 1 _ rfl, ?_⟩
            refine Evs_cons (Ev_sub ?_)
            repeat walk_at "m E"
            refine ⟨D, _, 2, _, rfl, rfl, hDl, at' 2 _ rfl, ?_⟩
            repeat walk_at "m E"
            refine lmux_spec (n := n) C c Mm.at' gg g3.ok (by omega) h0 h1 h2 fun n' e' v hg hval => ?_
            obtain ⟨l, f1, f2, f3⟩ := fin n' e' v hg hval
            exact ⟨l, f1, f2, Exs_nil (Exs_nil (Exs_nil (kQ _ _ _ f3)))⟩
    · rintro ρ' σ' ⟨hS', nodes, ins, es, ks, g, l1, l2, l3⟩
      rw [rng_length] at l1 l3
      have u4 := hS'.get t4
      have u5 := hS'.get t5
      refine Exs_cons (Ex_ret (Ev_tuple (Evs_cons ?_)))
      repeat walk_at "m E"
      exact ⟨Nat.le_of_ble_eq_true rfl, h _ _ _ _ _ _ _ _ _ _ _ _ g (by omega) l2 (by omega)⟩
end
-- Pl3
noncomputable def hasI (bl : List Int) (k : Int) : Bool := bl.any (· == k)
noncomputable def bstep (nodes : List Nd) (bl : List Int) (k : Nat) : List Int := if hasI bl k then (match nodes[k]? with
  | some (some (l, r)) => bl ++ [l.fdiv 2, r.fdiv 2]
  | _ => bl) else bl
noncomputable def bsweep (nodes : List Nd) (bl : List Int) (i : Nat) : List Int := (List.range i).foldl (fun b i => bstep nodes b (nodes.length - 1 - i)) bl
noncomputable def belowF (nodes : List Nd) (lits : List Int) : List Int := bsweep nodes (lits.map fun l => l.fdiv 2) (nodes.length - 1)
theorem bsweep_succ (nodes : List Nd) (u : List Int) (i : Nat) : bsweep nodes u (i + 1) = bstep nodes (bsweep nodes u i) (nodes.length - 1 - i) := by
  unfold bsweep
  rw [List.range_succ, List.foldl_append]; rfl
theorem fdiv2 (l : Int) : l.fdiv 2 = half l := rfl
theorem bstep_len (nodes : List Nd) (bl : List Int) (k : Nat) : (bstep nodes bl k).length ≤ bl.length + 2 := by
  unfold bstep
  split
  · split
    · rw [List.length_append]; exact Nat.le_refl _
    · omega
  · omega
theorem bsweep_len (nodes : List Nd) (bl : List Int) (i : Nat) : (bsweep nodes bl i).length ≤ bl.length + 2 * i := by
  induction i with
  | zero => exact Nat.le_refl _
  | succ i ih => rw [bsweep_succ]; have := bstep_len nodes (bsweep nodes bl i) (nodes.length - 1 - i); omega

structure Agree (nodes : List Nd) (u : List Bool) (bl : List Int) : Prop where
  len : u.length = nodes.length
  at' : ∀ k, k < nodes.length → u.getD k false = hasI bl k
theorem getD_set {u : List Bool} {i k : Nat} (hi : i < u.length) : (u.set i true).getD k false = ((k == i) || u.getD k false) := by
  by_cases q : k = i
  · subst q; simp [List.getD, hi]
  · have : (k == i) = false := by simpa using q
    rw [this, Bool.false_or]
    simp [List.getD, List.getElem?_set_ne (Ne.symm q)]
theorem Agree.add {nodes : List Nd} {u : List Bool} {bl : List Int} (a : Agree nodes u bl) {l : Int} (h0 : 0 ≤ l) (h1 : half l < nodes.length) : Agree nodes (u.set (half l).toNat true) (bl ++ [l.fdiv 2]) where
  len := by rw [List.length_set]; exact a.len
  at' := fun k hk => by
    have hn := half_nonneg h0
    rw [getD_set (by rw [a.len]; omega), a.at' k hk]
    unfold hasI
    rw [List.any_append, fdiv2]
    simp only [List.any_cons, List.any_nil, Bool.or_false]
    rw [Bool.or_comm]
    congr 1
    by_cases q : k = (half l).toNat
    · subst q; rw [beq_self_eq_true]; symm; rw [beq_iff_eq]; omega
    · have e1 : (k == (half l).toNat) = false := by simpa using q
      rw [e1]; symm; rw [beq_eq_false_iff_ne]; omega
theorem mark_agree (nodes : List Nd) : ∀ (lits : List Int) (u : List Bool) (bl : List Int), (∀ l ∈ lits, 0 ≤ l ∧ half l < nodes.length) → Agree nodes u bl → Agree nodes (markF u lits) (bl ++ lits.map fun l => l.fdiv 2)
  | [], u, bl, _, a => by simpa [markF] using a
  | l :: r, u, bl, h, a => by
    have h1 := h l (List.mem_cons_self ..)
    have := mark_agree nodes r _ _ (fun x hx => h x (List.mem_cons_of_mem _ hx)) (a.add h1.1 h1.2)
    rw [List.append_assoc] at this
    exact this
theorem step_agree {nodes : List Nd} (ht : Topo nodes) {u : List Bool} {bl : List Int} (a : Agree nodes u bl) {k : Nat} (hk : k < nodes.length) : Agree nodes (sweepStep nodes u k) (bstep nodes bl k) := by
  unfold sweepStep bstep
  rw [a.at' k hk]
  cases q : hasI bl k with
  | false => simpa using a
  | true =>
    simp only [if_true]
    rcases e : nodes[k]? with _ | (_ | ⟨l, r⟩)
    · exact a
    · exact a
    · obtain ⟨l0, r0, l1, r1⟩ := ht k l r e
      have := (a.add l0 (by omega)).add r0 (by omega)
      rw [List.append_assoc] at this
      exact this
theorem sweep_agree {nodes : List Nd} (ht : Topo nodes) {u : List Bool} {bl : List Int} (a : Agree nodes u bl) (hp : 0 < nodes.length) : ∀ i, i ≤ nodes.length → Agree nodes (sweepF nodes u i) (bsweep nodes bl i)
  | 0, _ => a
  | i + 1, hi => by
    rw [sweepF_succ, bsweep_succ]
    exact step_agree ht (sweep_agree ht a hp i (by omega)) (by omega)
theorem used_agree {nodes : List Nd} {lits : List Int} (ht : Topo nodes) (hl : Lits nodes lits) (hp : 0 < nodes.length) : Agree nodes (usedF nodes lits) (belowF nodes lits) := by
  refine sweep_agree ht ?_ hp _ (by omega)
  have a0 : Agree nodes (List.replicate nodes.length false) [] := ⟨by simp, fun k hk => by simp [hasI, List.getD, List.getElem?_replicate, hk]⟩
  have := mark_agree nodes lits _ _ hl a0
  simpa using this

/-! what is used is closed -/
theorem step_keeps {nodes : List Nd} (ht : Topo nodes) {u : List Bool} (hu : u.length = nodes.length) {k0 : Nat} (h0 : k0 < nodes.length) :
    (∀ k, u.getD k false = true → (sweepStep nodes u k0).getD k false = true) ∧ (∀ k, k0 ≤ k → (sweepStep nodes u k0).getD k false = u.getD k false) ∧
    (u.getD k0 false = true → ∀ l r, nodes[k0]? = some (some (l, r)) → (sweepStep nodes u k0).getD (half l).toNat false = true ∧ (sweepStep nodes u k0).getD (half r).toNat false = true) := by
  unfold sweepStep
  cases q : u.getD k0 false with
  | false => simp
  | true =>
    simp only [if_true]
    split
    · rename_i l r e
      obtain ⟨l0, r0, l1, r1⟩ := ht k0 l r e
      have l2 := half_nonneg l0
      have r2 := half_nonneg r0
      have i1 : (half l).toNat < u.length := by omega
      have i2 : (half r).toNat < (u.set (half l).toNat true).length := by rw [List.length_set]; omega
      refine ⟨fun k hk => ?_, fun k hk => ?_, fun _ l' r' e' => ?_⟩
      · rw [getD_set i2, getD_set i1, hk]; simp
      · have n1 : (k == (half l).toNat) = false := by simp; omega
        have n2 : (k == (half r).toNat) = false := by simp; omega
        rw [getD_set i2, getD_set i1, n1, n2]; simp
      · rw [e] at e'
        cases e'
        rw [getD_set i2, getD_set i1, getD_set i2, getD_set i1]
        simp
    · rename_i hno
      exact ⟨fun k hk => hk, fun k hk => rfl, fun _ l r e => absurd e (hno l r)⟩
theorem sweep_closed {nodes : List Nd} (ht : Topo nodes) {u : List Bool} (hu : u.length = nodes.length) (hp : 0 < nodes.length) : ∀ i, i < nodes.length → ∀ k, nodes.length - i ≤ k → (sweepF nodes u i).getD k false = true → ∀ l r, nodes[k]? = some (some (l, r)) →
    (sweepF nodes u i).getD (half l).toNat false = true ∧ (sweepF nodes u i).getD (half r).toNat false = true
  | 0, _, k, hk, _, l, r, e => by
    have := (List.getElem?_eq_some_iff.mp e).1
    omega
  | i + 1, hi, k, hk, h, l, r, e => by
    have ih := sweep_closed ht hu hp i (by omega)
    have hl : (sweepF nodes u i).length = nodes.length := by rw [sweepF_length, hu]
    obtain ⟨s1, s2, s3⟩ := step_keeps ht hl (k0 := nodes.length - 1 - i) (by omega)
    rw [sweepF_succ] at h ⊢
    rw [s2 k (by omega)] at h
    by_cases q : k = nodes.length - 1 - i
    · subst q; exact s3 h l r e
    · obtain ⟨a, b⟩ := ih k (by omega) h l r e
      exact ⟨s1 _ a, s1 _ b⟩
theorem used_closed {nodes : List Nd} {lits : List Int} (ht : Topo nodes) (hz : nodes[0]? = some none) {k : Nat} (h : (usedF nodes lits).getD k false = true) {l r : Int} (e : nodes[k]? = some (some (l, r))) :
    (usedF nodes lits).getD (half l).toNat false = true ∧ (usedF nodes lits).getD (half r).toNat false = true := by
  have hp : 0 < nodes.length := (List.getElem?_eq_some_iff.mp hz).1
  have hk : k ≠ 0 := fun q => by rw [q, hz] at e; cases e
  exact sweep_closed ht (by rw [markF_length, List.length_replicate]) hp (nodes.length - 1) (by omega) k (by omega) h l r e

theorem cone_mem {nodes : List Nd} {lits : List Int} {k : Nat} : k ∈ coneF nodes lits ↔ k < nodes.length ∧ (usedF nodes lits).getD k false = true := by
  unfold coneF
  rw [List.mem_filter, List.mem_range]

/-! the numbers -/
theorem numL_at (m : Nat) : ∀ (ks : List Nat) (v : List Int), v.length = m → ∀ k, k < m → (ks.foldl (fun v k => v.set k ((k : Int) + 1)) v).getD k 0 = if k ∈ ks then (k : Int) + 1 else v.getD k 0
  | [], v, hv, k, hk => by simp
  | a :: r, v, hv, k, hk => by
    rw [List.foldl_cons, numL_at m r _ (by rw [List.length_set]; exact hv) k hk]
    by_cases q : k ∈ r
    · rw [if_pos q, if_pos (List.mem_cons_of_mem _ q)]
    · rw [if_neg q]
      by_cases z : k = a
      · subst z
        rw [if_pos (List.mem_cons_self ..)]
        simp [List.getD, show k < v.length by omega]
      · rw [if_neg (by simp [z, q])]
        simp [List.getD, List.getElem?_set_ne (Ne.symm z)]
theorem numL_eq {nodes : List Nd} {lits : List Int} (ht : Topo nodes) (hl : Lits nodes lits) (hp : 0 < nodes.length) :
    numL nodes.length (coneF nodes lits) = (List.range nodes.length).map fun (k : Nat) => if hasI (belowF nodes lits) k then (k : Int) + 1 else 0 := by
  have ag := used_agree ht hl hp
  refine List.ext_getElem (by rw [numL_length, List.length_map, List.length_range]) fun k h1 h2 => ?_
  rw [numL_length] at h1
  have e := numL_at nodes.length (coneF nodes lits) (List.replicate nodes.length 0) (by simp) k h1
  have e2 : (numL nodes.length (coneF nodes lits))[k] = (numL nodes.length (coneF nodes lits)).getD k 0 := by
    rw [List.getD_eq_getElem?_getD, List.getElem?_eq_getElem (by rw [numL_length]; exact h1)]; rfl
  rw [e2]
  unfold numL
  rw [e, List.getElem_map, List.getElem_range, ← ag.at' k h1]
  by_cases q : (usedF nodes lits).getD k false = true
  · rw [if_pos (cone_mem.mpr ⟨h1, q⟩), if_pos q]
  · rw [if_neg (fun z => q (cone_mem.mp z).2), if_neg q]
    simp [List.getD, h1]

/-! the clauses' variables -/
theorem varOf_eq (l : Int) : varOf l = if l % 2 = 1 then -(half l + 1) else half l + 1 := by
  unfold varOf
  rw [bitAnd_m1]
  show (if (l % 2 == 1) = true then -(half l + 1) else half l + 1) = _
  by_cases q : l % 2 = 1
  · rw [if_pos (by simpa using q), if_pos q]
  · rw [if_neg (by simpa using q), if_neg q]
theorem varOf_abs {l : Int} (h : 0 ≤ l) : ((varOf l).natAbs : Int) = half l + 1 ∧ varOf l ≠ 0 := by
  have := half_nonneg h
  rw [varOf_eq]
  split <;> omega
theorem cl_var {nodes : List Nd} {lits : List Int} (ht : Topo nodes) (hz : nodes[0]? = some none) {c : List Int} (hc : c ∈ cnfL nodes (coneF nodes lits)) : c.length ≤ 3 ∧ ∀ v ∈ c, v ≠ 0 ∧ ∃ k : Nat, (v.natAbs : Int) = (k : Int) + 1 ∧ k < nodes.length ∧ (usedF nodes lits).getD k false = true := by
  unfold cnfL at hc
  obtain ⟨k, hk, hc⟩ := List.mem_flatMap.mp hc
  obtain ⟨hk1, hk2⟩ := cone_mem.mp hk
  unfold ndCl at hc
  split at hc
  · rename_i q
    subst q
    rw [List.mem_singleton.mp hc]
    refine ⟨by decide, fun v hv => ?_⟩
    rw [List.mem_singleton.mp hv]
    exact ⟨by decide, 0, by decide, hk1, hk2⟩
  · split at hc
    · rename_i l r e
      obtain ⟨l0, r0, l1, r1⟩ := ht k l r e
      obtain ⟨u1, u2⟩ := used_closed ht hz hk2 e
      have l2 := half_nonneg l0
      have r2 := half_nonneg r0
      obtain ⟨a1, a2⟩ := varOf_abs l0
      obtain ⟨b1, b2⟩ := varOf_abs r0
      have vk : ∀ v : Int, v = (k : Int) + 1 ∨ v = -((k : Int) + 1) → v ≠ 0 ∧ ∃ k : Nat, (v.natAbs : Int) = (k : Int) + 1 ∧ k < nodes.length ∧ (usedF nodes lits).getD k false = true := fun v hv => ⟨by omega, k, by omega, hk1, hk2⟩
      have vl : ∀ v : Int, v = varOf l ∨ v = -varOf l → v ≠ 0 ∧ ∃ k : Nat, (v.natAbs : Int) = (k : Int) + 1 ∧ k < nodes.length ∧ (usedF nodes lits).getD k false = true := fun v hv => ⟨by omega, (half l).toNat, by omega, by omega, u1⟩
      have vr : ∀ v : Int, v = varOf r ∨ v = -varOf r → v ≠ 0 ∧ ∃ k : Nat, (v.natAbs : Int) = (k : Int) + 1 ∧ k < nodes.length ∧ (usedF nodes lits).getD k false = true := fun v hv => ⟨by omega, (half r).toNat, by omega, by omega, u2⟩
      simp only [List.mem_cons, List.not_mem_nil, or_false] at hc
      rcases hc with rfl | rfl | rfl
      · refine ⟨by simp, fun v hv => ?_⟩
        simp only [List.mem_cons, List.not_mem_nil, or_false] at hv
        rcases hv with rfl | rfl
        · exact vk _ (.inr rfl)
        · exact vl _ (.inl rfl)
      · refine ⟨by simp, fun v hv => ?_⟩
        simp only [List.mem_cons, List.not_mem_nil, or_false] at hv
        rcases hv with rfl | rfl
        · exact vk _ (.inr rfl)
        · exact vr _ (.inl rfl)
      · refine ⟨by simp, fun v hv => ?_⟩
        simp only [List.mem_cons, List.not_mem_nil, or_false] at hv
        rcases hv with rfl | rfl | rfl
        · exact vk _ (.inl rfl)
        · exact vl _ (.inr rfl)
        · exact vr _ (.inr rfl)
    · cases hc

/-! the clauses hold just when the graph does -/
noncomputable def modelF (vs : List Int) : List Bool := false :: vs.map fun v => v == 1
noncomputable def dueAt (nodes : List Nd) (bl vs : List Int) (k : Nat) : Bool := match nodes[k]? with
  | some (some (l, r)) => !hasI bl k || (vs.getD k 0 == Builtin.bitAnd (ofF vs l 1) (ofF vs r 1))
  | _ => true
noncomputable def due0 (bl vs : List Int) : Bool := !hasI bl 0 || (vs.getD 0 0 == 0)
noncomputable def dueF (nodes : List Nd) (bl vs : List Int) (i : Nat) : Bool := due0 bl vs && (List.range i).all (dueAt nodes bl vs)
noncomputable def Bits (vs : List Int) : Prop := ∀ k, vs.getD k 0 = 0 ∨ vs.getD k 0 = 1

theorem model_at {vs : List Int} {k : Nat} (hk : k < vs.length) : (modelF vs).getD (k + 1) false = (vs.getD k 0 == 1) := by
  unfold modelF
  simp [List.getD, hk]
theorem holds_pos {vs : List Int} {k : Nat} (hk : k < vs.length) : litHolds (modelF vs) ((k : Int) + 1) = (vs.getD k 0 == 1) := by
  unfold litHolds
  rw [show ((k : Int) + 1).natAbs = k + 1 from by omega, model_at hk, decide_eq_true (show (0 : Int) < (k : Int) + 1 by omega)]
  cases vs.getD k 0 == 1 <;> rfl
theorem holds_neg {vs : List Int} {k : Nat} (hk : k < vs.length) : litHolds (modelF vs) (-((k : Int) + 1)) = !(vs.getD k 0 == 1) := by
  unfold litHolds
  rw [show (-((k : Int) + 1)).natAbs = k + 1 from by omega, model_at hk, decide_eq_false (show ¬ (0 : Int) < -((k : Int) + 1) by omega)]
  cases vs.getD k 0 == 1 <;> rfl
theorem of_bit {vs : List Int} (hb : Bits vs) (l : Int) : ofF vs l 1 = 0 ∨ ofF vs l 1 = 1 := by
  unfold ofF
  rcases hb (l.fdiv 2).toNat with h | h <;> rw [h] <;> split <;> simp
theorem holds_var {vs : List Int} (hb : Bits vs) {l : Int} (h0 : 0 ≤ l) (hl : half l < vs.length) : litHolds (modelF vs) (varOf l) = (ofF vs l 1 == 1) ∧ litHolds (modelF vs) (-varOf l) = !(ofF vs l 1 == 1) := by
  have hn := half_nonneg h0
  obtain ⟨k, hk⟩ := Int.eq_ofNat_of_zero_le hn
  have hk' : k < vs.length := by omega
  have p := holds_pos hk'
  have q := holds_neg hk'
  have em : l.fmod 2 = l % 2 := Int.fmod_eq_emod_of_nonneg _ (by decide)
  unfold ofF
  rw [varOf_eq, hk, em, fdiv2, hk]
  have b := hb k
  by_cases z : l % 2 = 1
  · rw [if_pos z, if_pos (by simpa using z)]
    rw [show -(-((k : Int) + 1)) = (k : Int) + 1 from by omega]
    show litHolds _ (-((k : Int) + 1)) = _ ∧ litHolds _ ((k : Int) + 1) = _
    rw [p, q]
    simp only [Int.toNat_natCast]
    rcases b with b | b <;> rw [b] <;> decide
  · rw [if_neg z, if_neg (by simpa using z)]
    show litHolds _ ((k : Int) + 1) = _ ∧ litHolds _ (-((k : Int) + 1)) = _
    rw [p, q]
    simp only [Int.toNat_natCast]
    exact ⟨trivial, trivial⟩
theorem and_bits {a b : Int} (ha : a = 0 ∨ a = 1) (hb : b = 0 ∨ b = 1) : Builtin.bitAnd a b = if a = 1 ∧ b = 1 then 1 else 0 := by
  rcases ha with rfl | rfl <;> rcases hb with rfl | rfl <;> decide
theorem nd_holds {nodes : List Nd} (ht : Topo nodes) (hz : nodes[0]? = some none) {vs : List Int} (hb : Bits vs) (hlen : vs.length = nodes.length) {k : Nat} (hk : k < nodes.length) :
    (ndCl nodes k).all (clauseHolds (modelF vs)) = if k = 0 then (vs.getD 0 0 == 0) else match nodes[k]? with
      | some (some (l, r)) => vs.getD k 0 == Builtin.bitAnd (ofF vs l 1) (ofF vs r 1)
      | _ => true := by
  unfold ndCl
  by_cases q : k = 0
  · subst q
    rw [if_pos rfl, if_pos rfl]
    have := holds_neg (vs := vs) (k := 0) (by omega)
    simp only [List.all_cons, List.all_nil, Bool.and_true, clauseHolds, List.any_cons, List.any_nil, Bool.or_false]
    rw [this]
    rcases hb 0 with b | b <;> rw [b] <;> decide
  · rw [if_neg q, if_neg q]
    rcases e : nodes[k]? with _ | (_ | ⟨l, r⟩)
    · rfl
    · rfl
    · obtain ⟨l0, r0, l1, r1⟩ := ht k l r e
      obtain ⟨a1, a2⟩ := holds_var hb l0 (by omega)
      obtain ⟨b1, b2⟩ := holds_var hb r0 (by omega)
      have p := holds_pos (vs := vs) (k := k) (by omega)
      have n := holds_neg (vs := vs) (k := k) (by omega)
      simp only [List.all_cons, List.all_nil, Bool.and_true, clauseHolds, List.any_cons, List.any_nil, Bool.or_false]
      rw [p, n, a1, a2, b1, b2, and_bits (of_bit hb l) (of_bit hb r)]
      rcases hb k with x | x <;> rcases of_bit hb l with y | y <;> rcases of_bit hb r with z | z <;> simp only [x, y, z] <;> decide
theorem all_filter (p q : Nat → Bool) (l : List Nat) : (l.filter p).all q = l.all fun k => !p k || q k := by
  induction l with
  | nil => rfl
  | cons a l ih =>
    rw [List.filter_cons]
    cases h : p a <;> simp [h, ih]
theorem sat_due {nodes : List Nd} {lits : List Int} (ht : Topo nodes) (hl : Lits nodes lits) (hz : nodes[0]? = some none) {vs : List Int} (hb : Bits vs) (hlen : vs.length = nodes.length) :
    satF (cnfL nodes (coneF nodes lits)) (modelF vs) = dueF nodes (belowF nodes lits) vs nodes.length := by
  have hp : 0 < nodes.length := (List.getElem?_eq_some_iff.mp hz).1
  have ag := used_agree ht hl hp
  have e1 : satF (cnfL nodes (coneF nodes lits)) (modelF vs) = (List.range nodes.length).all fun k => !(usedF nodes lits).getD k false || (ndCl nodes k).all (clauseHolds (modelF vs)) := by
    unfold satF cnfL coneF
    rw [List.all_flatMap, all_filter]
  rw [e1]
  unfold dueF due0
  rw [Bool.eq_iff_iff, List.all_eq_true, Bool.and_eq_true, List.all_eq_true]
  have key : ∀ k, k < nodes.length → ((!(usedF nodes lits).getD k false || (ndCl nodes k).all (clauseHolds (modelF vs))) = true ↔ (k = 0 → (!hasI (belowF nodes lits) 0 || (vs.getD 0 0 == 0)) = true) ∧ dueAt nodes (belowF nodes lits) vs k = true) := by
    intro k hk
    rw [nd_holds ht hz hb hlen hk, ag.at' k hk]
    unfold dueAt
    by_cases q : k = 0
    · subst q
      rw [if_pos rfl, hz]
      simp
    · rw [if_neg q]
      simp only [q, false_implies, true_and]
      split
      · exact Iff.rfl
      · simp
  constructor
  · intro h
    refine ⟨((key 0 hp).mp (h 0 (List.mem_range.mpr hp))).1 rfl, fun k hk => ((key k (List.mem_range.mp hk)).mp (h k hk)).2⟩
  · rintro ⟨h0, h1⟩ k hk
    exact (key k (List.mem_range.mp hk)).mpr ⟨fun _ => h0, h1 k hk⟩

/-! the clauses of a difference -/
theorem differ_law : ∀ (s0 s1 s2 : Bool) (b0 b1 b2 : Bool), satF (diffL (if s0 then 1 else -1) (2 * (if s1 then 1 else -1)) (3 * (if s2 then 1 else -1))) [false, b0, b1, b2] = ((b2 == s2) == ((b0 == s0) != (b1 == s1))) := by decide
-- Pr12
structure LW (h₀ : Heap) (mg mb : Str → Option Value) (K : Frag) (fs : FA) : Prop where
  C : Cx h₀ mg mb K fs
  c : ClsX h₀ K fs
  aig : mg "Aig" = some (.ref fs.Aig)
  var : FnX h₀ K mg fs.variable_of "variable_of" (stAt 5)
  cone : FnX h₀ K mg fs.cone_nodes "cone_nodes" (stAt 6)
  cnf : FnX h₀ K mg fs.aig_cnf "aig_cnf" (stAt 7)
  diff : FnX h₀ K mg fs.differ_clauses "differ_clauses" (stAt 8)
  sat : FnX h₀ K mg fs.satisfies "satisfies" (stAt 9)
  text : FnX h₀ K mg fs.dimacs_text "dimacs_text" (stAt 10)
  word : FnX h₀ K mg fs.whole_word "whole_word" (stAt 11)
  read : FnX h₀ K mg fs.read_dimacs "read_dimacs" (stAt 12)
  pick : FnX h₀ K mg fs.pick "_law_pick" (stAt 17)
  of_ : FnX h₀ K mg fs.of_ "_law_of" (stAt 18)
  graph : FnX h₀ K mg fs.graph "_law_graph" (stAt 19)

structure LS (fs : FA) (σ : AS) (H cells x d nl il ol tl B CL : Addr) (ns : List Int) (nodes : List Nd) (ins : List AV) (es : List (List Int × Int)) (bl : List Int) (cl : List (List Int)) : Prop where
  hcells : σ cells = some (.list (ns.map .int))
  hand : ∃ hs, σ H = some (.list hs) ∧ HandV cells ns.length hs
  gr : Gr σ x fs.Aig d nl il ol tl nodes ins es
  below : σ B = some (.list (bl.map .int))
  cla : σ CL = some (.list (clAV cl))

structure LP (nodes : List Nd) (es : List (List Int × Int)) (lits bl : List Int) (cl : List (List Int)) : Prop where
  ok : GOk nodes es
  n10 : nodes.length ≤ 10
  hl : Lits nodes lits
  l2 : lits.length ≤ 2
  hbl : bl = belowF nodes lits
  hcl : cl = cnfL nodes (coneF nodes lits)

section
variable {nodes : List Nd} {es : List (List Int × Int)} {lits bl : List Int} {cl : List (List Int)}
theorem LP.cl_len (p : LP nodes es lits bl cl) : cl.length ≤ 30 := by
  rw [p.hcl]
  have := cnfL_len nodes (coneF nodes lits)
  have := coneF_len nodes lits
  have := p.n10
  omega
theorem LP.bl_len (p : LP nodes es lits bl cl) : bl.length ≤ 30 := by
  rw [p.hbl]
  have := bsweep_len nodes (lits.map fun l => l.fdiv 2) (nodes.length - 1)
  rw [List.length_map] at this
  have := p.n10
  have := p.l2
  unfold belowF
  omega
theorem LP.vars (p : LP nodes es lits bl cl) {c : List Int} (hc : c ∈ cl) : c.length ≤ 3 ∧ ∀ v ∈ c, v ≠ 0 ∧ ∃ k : Nat, (v.natAbs : Int) = (k : Int) + 1 ∧ k < nodes.length ∧ hasI bl k = true := by
  rw [p.hcl] at hc
  obtain ⟨h1, h2⟩ := cl_var p.ok.topo p.ok.zero hc
  refine ⟨h1, fun v hv => ?_⟩
  obtain ⟨a, k, b, c, d⟩ := h2 v hv
  exact ⟨a, k, b, c, by rw [p.hbl, ← (used_agree p.ok.topo p.hl p.ok.pos).at' k c]; exact d⟩
theorem LP.good (p : LP nodes es lits bl cl) : GoodC (cl ++ [[]]) ∧ (∀ c ∈ cl ++ [[]], ∀ l ∈ c, l ≠ 0 ∧ l.natAbs ≤ nodes.length) := by
  have n10 := p.n10
  constructor
  · intro c hc
    rcases List.mem_append.mp hc with q | q
    · obtain ⟨h1, h2⟩ := p.vars q
      refine ⟨h1, fun l hl => ?_⟩
      obtain ⟨a, k, b, c, d⟩ := h2 l hl
      omega
    · rw [List.mem_singleton.mp q]
      exact ⟨by decide, fun l hl => (nomatch hl)⟩
  · intro c hc l hl
    rcases List.mem_append.mp hc with q | q
    · obtain ⟨h1, h2⟩ := p.vars q
      obtain ⟨a, k, b, c, d⟩ := h2 l hl
      exact ⟨a, by omega⟩
    · rw [List.mem_singleton.mp q] at hl; cases hl
end

noncomputable abbrev LE (qual : Str) (cdv : Value) (L f : Addr) : Env := envOfC qual (dScope (stAt 20)) L f cdv

section
variable {prog : Program} {w : World} {h₀ : Heap} {n : Nat} {σ : AS} {mg mb : Str → Option Value} {K : Frag} {fs : FA} {env : Env} {ρ : Rho}
variable {H cells x d nl il ol tl B CL : Addr} {ns : List Int} {nodes : List Nd} {ins : List AV} {es : List (List Int × Int)} {lits bl : List Int} {cl : List (List Int)} {qual : Str} {cdv : Value} {L f : Addr}

theorem LS.le {σ' : AS} (s : LS fs σ H cells x d nl il ol tl B CL ns nodes ins es bl cl) (h : AS.le σ σ') : LS fs σ' H cells x d nl il ol tl B CL ns nodes ins es bl cl := by
  obtain ⟨hs, h1, h2⟩ := s.hand
  exact ⟨h _ _ s.hcells, ⟨hs, h _ _ h1, h2⟩, ⟨h _ _ s.gr.gx, h _ _ s.gr.gd, h _ _ s.gr.gn, h _ _ s.gr.gi, h _ _ s.gr.gt, s.gr.ne, s.gr.nm⟩, h _ _ s.below, h _ _ s.cla⟩

theorem partD (W : LW h₀ mg mb K fs) (P : LP nodes es lits bl cl) (hcl : σ CL = some (.list (clAV cl))) (r1 : ρ "total" = some (.int nodes.length)) (r2 : ρ "clauses" = some (.obj CL)) :
    Exs prog w h₀ (n + 6) (LE qual cdv L f) ρ σ ((dBody (stAt 20)).drop 14) fun fl _ _ => fl.out = .bool true := by
  have C := W.C
  have hz := P.cl_len
  obtain ⟨hgood, hb⟩ := P.good
  have hlen : (cl ++ [([] : List Int)]).length = cl.length + 1 := by rw [List.length_append, List.length_singleton]
  have hT : OkI (nodes.length : Int) := okI_to (by omega) (by have := P.n10; omega)
  have hC : OkI ((cl ++ [([] : List Int)]).length : Int) := okI_to (by omega) (by rw [hlen]; push_cast; omega)
  have hcz : (clAV cl).length = cl.length := by unfold clAV; rw [List.length_map]
  refine Exs_cons (Ex_assign ?_ (.inl rfl))
  refine Ev_callK C.kin (Ev_global C.top W.read.glob rfl ⟨_, rfl, W.read.keep, Evs_cons ?_⟩)
  refine Ev_callK C.kin (Ev_global C.top W.text.glob rfl ⟨_, rfl, W.text.keep, Evs_cons ?_⟩)
  repeat walk_at "m E"
  refine Ev_list (Evs_cons (Ev_tuple (Evs_nil ⟨Nat.le_of_ble_eq_true rfl, Evs_nil ⟨Nat.le_of_ble_eq_true rfl, fun E hE hE0 => ?_⟩⟩)))
  have hCE : CL ≠ E := fun e => by rw [← e, hcl] at hE; cases hE
  refine Bin_addlist (AS.get1 hCE hcl) (AS.set_same ..) (by rw [hcz, sizeLine_eq]; show cl.length + 1 ≤ _; omega) fun D hD hD0 => ?_
  have e1 : clAV cl ++ [AV.tup []] = clAV (cl ++ [[]]) := by unfold clAV; rw [List.map_append]; rfl
  rw [e1]
  refine Evs_nil (dimacs_text_spec (n := n + 5) C W.text.at' hT hC hgood (by rw [hlen]; omega) (AS.set_same ..) ?_)
  refine Evs_nil (read_dimacs_spec (n := n + 4) C W.read.at' W.word.at' W.word.glob W.word.keep hT (by omega) hC hgood (fun c hc l hl => ?_) (by rw [hlen]; omega) fun A hA hA0 => ?_)
  · obtain ⟨a, b⟩ := hb c hc l hl
    exact ⟨a, by omega⟩
  obtain ⟨hA1, hDA⟩ := AS.get0 hA
  obtain ⟨hA2, hEA⟩ := AS.get0 hA1
  obtain ⟨hD1, hED⟩ := AS.get0 hD
  have hCD : CL ≠ D := ne_of hD1 hcl
  have hCA : CL ≠ A := ne_of hA2 hcl
  refine Exs_cons (Ex_ret (Ev_cmp ?_))
  repeat walk_at "m E"
  refine Ev_tuple (Evs_cons ?_)
  repeat walk_at "m E"
  generalize hσ' : (((σ.set E (.list [.tup []])).set D (.list (clAV (cl ++ [[]])))).set A (.list (clAV (cl ++ [[]])))) = σ'
  have q1 : σ' CL = some (.list (clAV cl)) := by rw [← hσ']; exact AS.get1 hCA (AS.get1 hCD (AS.get1 hCE hcl))
  have q2 : σ' A = some (.list (clAV (cl ++ [[]]))) := by rw [← hσ']; exact AS.set_same ..
  refine Ev_comp (fun i acc σ'' => σ'' = σ' ∧ acc = clAV (cl.take i)) (EvIt_list (Ev_local (Rho.skip r2) rfl ⟨CL, _, rfl, q1, by rw [hcz, sizeLine_eq]; omega, ⟨rfl, rfl⟩, fun i acc σ'' _ hi => by rw [hi.1]; exact q1, ?_, ?_⟩))
  · rintro Cc i v acc σ'' hv ⟨rfl, rfl⟩
    obtain ⟨c, hc, rfl⟩ : ∃ c, cl[i]? = some c ∧ v = .tup (c.map .int) := by
      simp only [clAV, List.getElem?_map, Option.map_eq_some_iff] at hv
      obtain ⟨l, h1, h2⟩ := hv; exact ⟨l, h1, h2.symm⟩
    show Ev _ _ _ _ _ _ _ _ _
    repeat walk_at "m E"
    refine Cl_tuple_same ⟨rfl, ?_⟩
    rw [List.take_add_one, hc]
    simp [clAV]
  · rintro D₂ acc σ'' ⟨rfl, rfl⟩ hD₂ hD₂0
    rw [hcz, List.take_length]
    have n1 : A ≠ D₂ := ne_of hD₂ q2
    refine Ev_list (Evs_cons (Ev_tuple (Evs_nil ⟨Nat.le_of_ble_eq_true rfl, Evs_nil ⟨Nat.le_of_ble_eq_true rfl, fun E₂ hE₂ hE₂0 => ?_⟩⟩)))
    obtain ⟨hE₂', n2⟩ := AS.get0 hE₂
    have n3 : A ≠ E₂ := ne_of hE₂' q2
    refine Bin_addlist (AS.get1 n2 (AS.set_same ..)) (AS.set_same ..) (by rw [hcz, sizeLine_eq]; show cl.length + 1 ≤ _; omega) fun F hF hF0 => ?_
    rw [e1]
    obtain ⟨hF', n4⟩ := AS.get0 hF
    obtain ⟨hF'', n5⟩ := AS.get0 hF'
    have n6 : A ≠ F := ne_of hF'' q2
    refine Evs_nil ⟨Nat.le_of_ble_eq_true rfl, ?_⟩
    refine Cmp_eqdata (cs := cl ++ [[]]) (by omega) (AS.get1 n6 (AS.get1 n3 (AS.get1 n1 q2))) (AS.set_same ..) ?_
    rfl
end
-- Pr13
section
variable {prog : Program} {w : World} {h₀ : Heap} {n : Nat} {σ : AS} {mg mb : Str → Option Value} {K : Frag} {fs : FA} {env : Env} {ρ : Rho}
variable {H cells x d nl il ol tl B CL : Addr} {ns : List Int} {nodes : List Nd} {ins : List AV} {es : List (List Int × Int)} {lits bl : List Int} {cl : List (List Int)} {qual : Str} {cdv : Value} {L f : Addr}

theorem LS.ne (s : LS fs σ H cells x d nl il ol tl B CL ns nodes ins es bl cl) : cells ≠ H ∧ x ≠ H ∧ d ≠ H ∧ nl ≠ H ∧ il ≠ H ∨ True := .inr trivial
theorem hand_ne {len : Nat} {hs vs : List AV} {a : Addr} (h1 : σ H = some (.list hs)) (h2 : HandV cells len hs) (h : σ a = some (.list vs)) (hv : ∀ b, vs.head? ≠ some (.obj b)) : a ≠ H := fun e => by
  rw [e, h1] at h
  obtain ⟨i, k, seed, rfl, _⟩ := h2
  cases h
  exact hv cells rfl
theorem head_int (ns : List Int) : ∀ b, (ns.map AV.int).head? ≠ some (.obj b) := fun b => by cases ns <;> simp
theorem head_cl (cs : List (List Int)) : ∀ b, (clAV cs).head? ≠ some (.obj b) := fun b => by cases cs <;> simp [clAV]
theorem head_nd (cs : List Nd) : ∀ b, (cs.map ndAV).head? ≠ some (.obj b) := fun b => by
  cases cs with
  | nil => simp
  | cons c r => cases c <;> simp [ndAV]
theorem LS.setH (s : LS fs σ H cells x d nl il ol tl B CL ns nodes ins es bl cl) (hi : il ≠ H) {hs : List AV} (h : HandV cells ns.length hs) : LS fs (σ.set H (.list hs)) H cells x d nl il ol tl B CL ns nodes ins es bl cl := by
  obtain ⟨hs0, h1, h2⟩ := s.hand
  have k : ∀ {a : Addr} {o : AO}, σ a = some o → (∀ l, o ≠ .list l) → a ≠ H := fun ha ne e => by rw [e, h1] at ha; cases ha; exact ne _ rfl
  have n1 := hand_ne h1 h2 s.hcells (head_int ns)
  have n2 := hand_ne h1 h2 s.below (head_int bl)
  have n3 := hand_ne h1 h2 s.cla (head_cl cl)
  have n4 := hand_ne h1 h2 s.gr.gn (head_nd nodes)
  have n5 := k s.gr.gx (by intro l e; cases e)
  have n6 := k s.gr.gd (by intro l e; cases e)
  have n7 := k s.gr.gt (by intro l e; cases e)
  exact ⟨AS.get1 n1 s.hcells, ⟨hs, AS.set_same .., h⟩, ⟨AS.get1 n5 s.gr.gx, AS.get1 n6 s.gr.gd, AS.get1 n4 s.gr.gn, AS.get1 hi s.gr.gi, AS.get1 n7 s.gr.gt, s.gr.ne, s.gr.nm⟩, AS.get1 n2 s.below, AS.get1 n3 s.cla⟩

noncomputable def sg (s : Bool) : Int := if s then 1 else -1
theorem differ_len : ∀ (b0 b1 b2 : Bool), ∀ cl ∈ diffL (sg b0) (2 * sg b1) (3 * sg b2), ∀ l ∈ cl, l.natAbs < 4 := by decide
noncomputable def rowBit (row : Int) (t : Nat) : Bool := (row.fdiv (2 ^ t)).fmod 2 == 1

theorem Ev_rowbit {row : Int} {t : Nat} {x y : Str} {c1 c2 : Nat} {p1 p2 p3 p4 p5 p6 p7 : Pos} {Q : AV → AS → Prop} (ht : t ≤ 20) (hr : Ev prog w h₀ n env ρ σ (.Name x p1) fun v σ' => v = .int row ∧ σ' = σ) (hy : Ev prog w h₀ n env ρ σ (.Name y p3) fun v σ' => v = .int t ∧ σ' = σ)
    (h : Q (.int ((row.fdiv (2 ^ t)).fmod 2)) σ) : Ev prog w h₀ n env ρ σ (.BinOp (.BinOp (.Name x p1) .FloorDiv (.BinOp (.Constant (.int 2) c1 p2) .Pow (.Name y p3) p4) p5) .Mod (.Constant (.int 2) c2 p6) p7) Q := by
  refine Ev_bin (Ev_bin (hr.mono fun v σ' ⟨e1, e2⟩ => ?_))
  subst e1 e2
  refine Ev_bin (Ev_int (hy.mono fun v σ'' ⟨e1, e2⟩ => ?_))
  subst e1 e2
  refine Bin_pow (by omega) (by omega) (by decide) ?_
  rw [Int.toNat_natCast]
  have hp : (0 : Int) < 2 ^ t := Int.pow_pos (by decide)
  have hlt : (2 : Int) ^ t < 2 ^ 21 := by
    have : (2 : Nat) ^ t < 2 ^ 21 := Nat.pow_lt_pow_right (by decide) (by omega)
    exact_mod_cast this
  refine Bin_fdiv (by omega) (by omega) ?_
  exact Ev_int (Bin_mod (by decide) h)

theorem partC (W : LW h₀ mg mb K fs) (P : LP nodes es lits bl cl) (s : LS fs σ H cells x d nl il ol tl B CL ns nodes ins es bl cl) (hil : il ≠ H) (hn : ns.length ≤ 63) (r1 : ρ "total" = some (.int nodes.length)) (r2 : ρ "clauses" = some (.obj CL)) (r3 : ρ "hand" = some (.obj H)) :
    Exs prog w h₀ (n + 6) (LE qual cdv L f) ρ σ ((dBody (stAt 20)).drop 12) fun fl _ _ => fl.out = .bool true := by
  have C := W.C
  refine Exs_cons (Ex_assign ?_ (.inr ⟨rfl, rfl⟩))
  refine Ev_comp (fun j acc σ'' => ∃ ss : List Bool, acc = ss.map (fun s => .int (sg s)) ∧ ss.length = j ∧ LS fs σ'' H cells x d nl il ol tl B CL ns nodes ins es bl cl)
    (EvIt_range (Ev_builtin C.top C.nrange rfl rfl ⟨rfl, Ev_int ⟨3, rfl, by decide, by decide, ?_, ⟨[], rfl, rfl, s⟩, fun _ _ _ _ _ => trivial, ?_, ?_⟩⟩))
  · rw [rng_length, sizeLine_eq]; decide
  · rintro Cc j v acc σ'' hv ⟨ss, rfl, rfl, s'⟩
    obtain ⟨hs, w1, w2⟩ := s'.hand
    show Ev _ _ _ _ _ _ _ _ _
    refine Ev_bin (Ev_int (Ev_bin (Ev_int ?_)))
    refine Ev_callK C.kin (Ev_global C.top W.pick.glob rfl ⟨_, rfl, W.pick.keep, Evs_cons (Ev_cell (Rho.skip (inner_get r3)) rfl rfl (Evs_cons (Ev_int (Evs_nil ?_))))⟩)
    refine pick_spec (n := n + 5) C W.pick.at' (by decide) (by decide) s'.hcells hn w1 w2 fun r hs' hr0 hr1 hv' => ?_
    refine Bin_mul (IntMulOk.of_left (by decide)) (Bin_sub ⟨ss ++ [r == 0], ?_, by rw [List.length_append, List.length_singleton], s'.setH hil hv'⟩)
    rw [List.map_append]
    have hr : r = 0 ∨ r = 1 := by omega
    rcases hr with rfl | rfl <;> rfl
  · rintro D acc σ'' ⟨ss, rfl, hsl, s'⟩ hD hD0
    rw [rng_length] at hsl
    obtain ⟨b0, b1, b2, rfl⟩ : ∃ a b c, ss = [a, b, c] := by
      match ss, hsl with
      | [a, b, c], _ => exact ⟨a, b, c, rfl⟩
    have s1 := s'.le (AS.le_set hD (o := .list ([b0, b1, b2].map fun s => .int (sg s))))
    have hDl : (σ''.set D (.list ([b0, b1, b2].map fun s => .int (sg s)))) D = some (.list ([b0, b1, b2].map fun s => .int (sg s))) := AS.set_same ..
    dsimp only
    generalize (σ''.set D (.list ([b0, b1, b2].map fun s => .int (sg s)))) = σ₁ at s1 hDl
    have q1 : (ρ.set "signs" (.obj D)) "total" = some (.int nodes.length) := r1
    have q2 : (ρ.set "signs" (.obj D)) "clauses" = some (.obj CL) := r2
    have q3 : (ρ.set "signs" (.obj D)) "signs" = some (.obj D) := rfl
    generalize (ρ.set "signs" (.obj D)) = ρ₁ at q1 q2 q3
    have sat : ∀ (k : Nat) (v : Bool), [b0, b1, b2][k]? = some v → seqAt ([b0, b1, b2].map fun s => AV.int (sg s)) k (.int (sg v)) := fun k v e => seqAt_nat (by rw [List.getElem?_map, e]; rfl) (by show (3 : Nat) < _; decide)
    refine Exs_cons (Ex_for (fun i vs ρ' σ' => Same ["row", "model", "bits"] ρ₁ ρ' ∧ AS.le σ₁ σ')
      (EvIt_range (Ev_builtin C.top C.nrange rfl rfl ⟨rfl, Ev_int ⟨8, rfl, by decide, by decide, ⟨.refl, AS.le_refl _⟩, fun _ _ _ _ _ => trivial, ?_, ?_⟩⟩)))
    · rintro i v ρ' σ' hv ⟨hS, hle⟩
      obtain ⟨hi, rfl⟩ := rng_get hv
      generalize hrow : 0 + (i : Int) * 1 = row
      refine As_name (.inr ⟨rfl, rfl⟩) (Exs_hide fun QQ kQ => Exs_cons (Ex_assign ?_ (.inr ⟨rfl, rfl⟩)))
      refine Ev_bin (Ev_list (Evs_cons (Ev_bool (Evs_nil ⟨Nat.le_of_ble_eq_true rfl, fun E hE hE0 => ?_⟩))))
      refine Ev_comp (fun j acc σ'' => σ'' = σ'.set E (.list [.bool false]) ∧ acc = (List.range j).map fun t => .bool (rowBit row t))
        (EvIt_range (Ev_builtin C.top C.nrange rfl rfl ⟨rfl, Ev_int ⟨3, rfl, by decide, by decide, ?_, ⟨rfl, rfl⟩, fun _ _ _ _ _ => trivial, ?_, ?_⟩⟩))
      · rw [rng_length, sizeLine_eq]; decide
      · rintro Cc j v acc σ'' hv ⟨rfl, rfl⟩
        obtain ⟨hj, rfl⟩ := rng_get hv
        have hj3 : j < 3 := hj
        show Ev _ _ _ _ _ _ _ _ _
        refine Ev_cmp (Ev_rowbit (row := row) (t := j) (by omega) (Ev_cell (Rho.skip (inner_get rfl)) rfl rfl ⟨rfl, rfl⟩) (Ev_local rfl rfl ⟨by congr 1; omega, rfl⟩) ?_)
        repeat walk_at "m E"
        refine ⟨rfl, ?_⟩
        rw [List.range_succ, List.map_append]; rfl
      · rintro D₁ acc σ'' ⟨rfl, rfl⟩ hD₁ hD₁0
        rw [rng_length]
        obtain ⟨hD₁', n1⟩ := AS.get0 hD₁
        refine Bin_addlist (AS.get1 n1 (AS.set_same ..)) (AS.set_same ..) (by rw [List.length_map, List.length_range, sizeLine_eq]; decide) fun M hM hM0 => ?_
        have em : [AV.bool false] ++ (List.range (Int.toNat 3)).map (fun t => AV.bool (rowBit row t)) = [false, rowBit row 0, rowBit row 1, rowBit row 2].map AV.bool := rfl
        rw [em]
        have le1 : AS.le σ₁ ((((σ'.set E (.list [.bool false])).set D₁ (.list ((List.range (Int.toNat 3)).map fun t => .bool (rowBit row t)))).set M (.list ([false, rowBit row 0, rowBit row 1, rowBit row 2].map AV.bool)))) := AS.le_trans hle (AS.le_trans (AS.le_set hE) (AS.le_trans (AS.le_set hD₁) (AS.le_set hM)))
        have hMl : ((((σ'.set E (.list [.bool false])).set D₁ (.list ((List.range (Int.toNat 3)).map fun t => .bool (rowBit row t)))).set M (.list ([false, rowBit row 0, rowBit row 1, rowBit row 2].map AV.bool)))) M = some (.list ([false, rowBit row 0, rowBit row 1, rowBit row 2].map AV.bool)) := AS.set_same ..
        dsimp only
        generalize ((((σ'.set E (.list [.bool false])).set D₁ (.list ((List.range (Int.toNat 3)).map fun t => .bool (rowBit row t)))).set M (.list ([false, rowBit row 0, rowBit row 1, rowBit row 2].map AV.bool)))) = σ₂ at le1 hMl
        have hS2 : Same ["row", "model", "bits"] ρ₁ ((ρ'.set "row" (.int row)).set "model" (.obj M)) := (hS.set).set
        have k1 : ((ρ'.set "row" (.int row)).set "model" (.obj M)) "model" = some (.obj M) := rfl
        generalize ((ρ'.set "row" (.int row)).set "model" (.obj M)) = ρ₂ at hS2 k1
        generalize rowBit row 0 = m0 at hMl
        generalize rowBit row 1 = m1 at hMl
        generalize rowBit row 2 = m2 at hMl
        have mat : ∀ (k : Nat) (v : Bool), [false, m0, m1, m2][k]? = some v → seqAt ([false, m0, m1, m2].map AV.bool) k (.bool v) := fun k v e => seqAt_nat (by rw [List.getElem?_map, e]; rfl) (by show (4 : Nat) < _; decide)
        have dl2 := le1 _ _ hDl
        have k2 := hS2.get q3
        refine Exs_cons (Ex_assign_comp (fun j acc σ'' => σ'' = σ₂ ∧ acc = ([m0 == b0, m1 == b1, m2 == b2].take j).map AV.bool)
          (EvIt_range (Ev_builtin C.top C.nrange rfl rfl ⟨rfl, Ev_int ⟨3, rfl, by decide, by decide, ?_, ⟨rfl, rfl⟩, fun _ _ _ _ _ => trivial, ?_, ?_⟩⟩)))
        · rw [rng_length, sizeLine_eq]; decide
        · rintro Cc j v acc σ'' hv ⟨rfl, rfl⟩
          obtain ⟨hj, rfl⟩ := rng_get hv
          have hj3 : j < 3 := hj
          obtain ⟨bj, hbj⟩ : ∃ b, [b0, b1, b2][j]? = some b := ⟨_, List.getElem?_eq_getElem hj3⟩
          obtain ⟨mj, hmj⟩ : ∃ b, [false, m0, m1, m2][j + 1]? = some b := ⟨_, List.getElem?_eq_getElem (by show j + 1 < 4; omega)⟩
          show Ev _ _ _ _ _ _ _ _ _
          refine Ev_cmp (Ev_sub (Ev_cell (Rho.skip (inner_get k1)) rfl rfl ?_))
          repeat walk_at "m E"
          refine ⟨M, _, _, .bool mj, rfl, rfl, hMl, ?_, ?_⟩
          · have := mat (j + 1) mj hmj
            rw [show (((j + 1 : Nat) : Int)) = 0 + (j : Int) * 1 + 1 from by push_cast; omega] at this
            exact this
          refine Ev_cmp (Ev_sub (Ev_cell (Rho.skip (inner_get k2)) rfl rfl ?_))
          repeat walk_at "m E"
          refine ⟨D, _, _, .int (sg bj), rfl, rfl, dl2, ?_, ?_⟩
          · have := sat j bj hbj
            rw [show ((j : Nat) : Int) = 0 + (j : Int) * 1 from by omega] at this
            exact this
          repeat walk_at "m E"
          refine ⟨rfl, ?_⟩
          have e : decide ((0 : Int) < sg bj) = bj := by cases bj <;> rfl
          rw [e]
          match j, hj3, hbj, hmj with
          | 0, _, hbj, hmj => cases hbj; cases hmj; rfl
          | 1, _, hbj, hmj => cases hbj; cases hmj; rfl
          | 2, _, hbj, hmj => cases hbj; cases hmj; rfl
        · rintro D₂ acc σ'' ⟨rfl, rfl⟩ hD₂ hD₂0
          rw [rng_length]
          have le2 := AS.le_trans le1 (AS.le_set hD₂ (o := .list (([m0 == b0, m1 == b1, m2 == b2].take (Int.toNat 3)).map AV.bool)))
          have hB2 : (σ''.set D₂ (.list (([m0 == b0, m1 == b1, m2 == b2].take (Int.toNat 3)).map AV.bool))) D₂ = some (.list ([m0 == b0, m1 == b1, m2 == b2].map AV.bool)) := AS.set_same ..
          have hM2 := AS.get1 (x := .list (([m0 == b0, m1 == b1, m2 == b2].take (Int.toNat 3)).map AV.bool)) (ne_of hD₂ hMl) hMl
          dsimp only
          generalize (σ''.set D₂ (.list (([m0 == b0, m1 == b1, m2 == b2].take (Int.toNat 3)).map AV.bool))) = σ₃ at le2 hB2 hM2
          have hS3 : Same ["row", "model", "bits"] ρ₁ (ρ₂.set "bits" (.obj D₂)) := hS2.set
          have z1 : (ρ₂.set "bits" (.obj D₂)) "model" = some (.obj M) := k1
          have z2 : (ρ₂.set "bits" (.obj D₂)) "signs" = some (.obj D) := k2
          have z3 : (ρ₂.set "bits" (.obj D₂)) "bits" = some (.obj D₂) := rfl
          generalize (ρ₂.set "bits" (.obj D₂)) = ρ₃ at hS3 z1 z2 z3
          have dl3 := le2 _ _ hDl
          have bat : ∀ (k : Nat) (v : Bool), [m0 == b0, m1 == b1, m2 == b2][k]? = some v → seqAt ([m0 == b0, m1 == b1, m2 == b2].map AV.bool) k (.bool v) := fun k v e => seqAt_nat (by rw [List.getElem?_map, e]; rfl) (by show (3 : Nat) < _; decide)
          refine Exs_cons (Ex_if (Tr_cmp ?_))
          refine Ev_callK C.kin (Ev_global C.top W.sat.glob rfl ⟨_, rfl, W.sat.keep, Evs_cons ?_⟩)
          refine Ev_callK C.kin (Ev_global C.top W.diff.glob rfl ⟨_, rfl, W.diff.keep, Evs_cons (Ev_sub (Ev_cell z2 rfl rfl ?_))⟩)
          repeat walk_at "m E"
          refine ⟨D, _, 0, _, rfl, rfl, dl3, sat 0 _ rfl, Evs_cons (Ev_bin (Ev_int (Ev_sub (Ev_cell z2 rfl rfl ?_))))⟩
          repeat walk_at "m E"
          refine ⟨D, _, 1, _, rfl, rfl, dl3, sat 1 _ rfl, Bin_mul (IntMulOk.of_left (by decide)) (Evs_cons (Ev_bin (Ev_int (Ev_sub (Ev_cell z2 rfl rfl ?_)))))⟩
          repeat walk_at "m E"
          refine ⟨D, _, 2, _, rfl, rfl, dl3, sat 2 _ rfl, Bin_mul (IntMulOk.of_left (by decide)) (Evs_nil (differ_spec (n := n + 5) C.top W.diff.at' fun DC hDC hDC0 => ?_))⟩
          have le4 := AS.le_trans le2 (AS.le_set hDC (o := .list (clAV (diffL (sg b0) (2 * sg b1) (3 * sg b2)))))
          refine Evs_cons (Ev_cell z1 rfl rfl (Evs_nil (satisfies_spec (n := n + 5) C W.sat.at' (AS.set_same ..) (AS.get1 (ne_of hDC hM2) hM2) ?_ (by show (4 : Nat) < _; decide) ?_)))
          · exact differ_len b0 b1 b2
          refine Ev_cmp (Ev_sub (Ev_local z3 rfl ?_))
          repeat walk_at "m E"
          refine ⟨D₂, _, 2, _, rfl, rfl, AS.get1 (ne_of hDC hB2) hB2, bat 2 _ rfl, ?_⟩
          refine Ev_cmp (Ev_sub (Ev_local z3 rfl ?_))
          repeat walk_at "m E"
          refine ⟨D₂, _, 0, _, rfl, rfl, AS.get1 (ne_of hDC hB2) hB2, bat 0 _ rfl, Ev_sub (Ev_local z3 rfl ?_)⟩
          repeat walk_at "m E"
          refine ⟨D₂, _, 1, _, rfl, rfl, AS.get1 (ne_of hDC hB2) hB2, bat 1 _ rfl, ?_⟩
          repeat walk_at "m E"
          have hl := differ_law b0 b1 b2 m0 m1 m2
          refine if_f ?_ ?_
          · show (satF (diffL (sg b0) (2 * sg b1) (3 * sg b2)) [false, m0, m1, m2] != ((m2 == b2) == ((m0 == b0) != (m1 == b1)))) = false
            unfold sg
            rw [hl]
            simp
          repeat walk_at "m E"
          exact kQ _ _ _ ⟨hS3, le4⟩
    · rintro ρ' σ' ⟨hS, hle⟩
      exact partD W P (hle _ _ s1.cla) (hS.get q1) (hS.get q2)
end
-- Pr14
noncomputable def rowI (row : Int) (t : Nat) : Int := (row.fdiv (2 ^ t)).fmod 2
noncomputable def rowV (row : Int) (m : Nat) : List Int := (List.range m).map (rowI row)
theorem rowV_len (row : Int) (m : Nat) : (rowV row m).length = m := by unfold rowV; rw [List.length_map, List.length_range]
theorem rowV_bits (row : Int) (m : Nat) : Bits (rowV row m) := fun k => by
  unfold rowV
  by_cases h : k < m
  · have : ((List.range m).map (rowI row)).getD k 0 = rowI row k := by simp [List.getD, h]
    rw [this]
    unfold rowI
    rw [Int.fmod_eq_emod_of_nonneg _ (by decide)]
    omega
  · left
    simp [List.getD, h]
theorem rowV_at {row : Int} {m k : Nat} (h : k < m) : (rowV row m)[k]? = some (rowI row k) := by
  unfold rowV; simp [h]
theorem dueF_succ (nodes : List Nd) (bl vs : List Int) (i : Nat) : dueF nodes bl vs (i + 1) = (dueF nodes bl vs i && dueAt nodes bl vs i) := by
  unfold dueF
  rw [List.range_succ, List.all_append]
  simp [Bool.and_assoc]

section
variable {prog : Program} {w : World} {h₀ : Heap} {n : Nat} {σ : AS} {mg mb : Str → Option Value} {K : Frag} {fs : FA} {env : Env} {ρ : Rho}
variable {H cells x d nl il ol tl B CL : Addr} {ns : List Int} {nodes : List Nd} {ins : List AV} {es : List (List Int × Int)} {lits bl : List Int} {cl : List (List Int)} {qual : Str} {cdv : Value} {L f : Addr}

theorem partB (W : LW h₀ mg mb K fs) (P : LP nodes es lits bl cl) (s : LS fs σ H cells x d nl il ol tl B CL ns nodes ins es bl cl) (hil : il ≠ H) (hn : ns.length ≤ 63) (r1 : ρ "aig" = some (.obj x)) (r2 : ρ "clauses" = some (.obj CL)) (r3 : ρ "hand" = some (.obj H)) (r4 : ρ "belows" = some (.obj B)) :
    Exs prog w h₀ (n + 6) (LE qual cdv L f) ρ σ ((dBody (stAt 20)).drop 10) fun fl _ _ => fl.out = .bool true := by
  have C := W.C
  have n10 := P.n10
  have hcz : (clAV cl).length = cl.length := by unfold clAV; rw [List.length_map]
  have hclz := P.cl_len
  refine Exs_cons (Ex_assign ?_ (.inl rfl))
  refine Ev_lennodes C W.c.cls (Ev_local r1 rfl ⟨x, d, nl, _, nodes, rfl, s.gr.aig, by omega, ?_⟩)
  have q1 : (ρ.set "total" (.int nodes.length)) "aig" = some (.obj x) := r1
  have q2 : (ρ.set "total" (.int nodes.length)) "clauses" = some (.obj CL) := r2
  have q3 : (ρ.set "total" (.int nodes.length)) "hand" = some (.obj H) := r3
  have q4 : (ρ.set "total" (.int nodes.length)) "belows" = some (.obj B) := r4
  have q5 : (ρ.set "total" (.int nodes.length)) "total" = some (.int nodes.length) := rfl
  show Exs _ _ _ _ _ _ _ _ _
  generalize (ρ.set "total" (.int nodes.length)) = ρ₁ at q1 q2 q3 q4 q5
  refine Exs_cons (Ex_forX (EvIt_range (Ev_builtin C.top C.nrange rfl rfl ⟨rfl, Ev_bin (Ev_int ?_)⟩)))
  refine Ev_callv (Ev_builtin C.top C.nmin rfl rfl ⟨_, rfl, rfl, Evs_cons (Ev_local q5 rfl (Evs_cons (Ev_int (Evs_nil (Cl_min ?_)))))⟩)
  generalize ht6 : (if (6 : Int) < (nodes.length : Int) then (6 : Int) else (nodes.length : Int)) = t6
  have ht : 0 ≤ t6 ∧ t6 ≤ 6 := by rw [← ht6]; split <;> omega
  refine Bin_pow ht.1 (by omega) (by decide) ?_
  have hp : (2 : Int) ^ t6.toNat ≤ 2 ^ 6 := by
    have : (2 : Nat) ^ t6.toNat ≤ 2 ^ 6 := Nat.pow_le_pow_right (by decide) (by omega)
    exact_mod_cast this
  have hp0 : (0 : Int) < 2 ^ t6.toNat := Int.pow_pos (by decide)
  refine ⟨_, rfl, by omega, by omega, fun i ρ' σ' => Same ["row", "values", "due", "node", "pair", "model", "held"] ρ₁ ρ' ∧ AS.le σ σ', ⟨.refl, AS.le_refl _⟩, fun _ _ _ _ _ => trivial, ?_, ?_⟩
  · rintro i v ρ' σ' hv ⟨hS, hle⟩
    obtain ⟨hi, rfl⟩ := rng_get hv
    generalize hrow : 0 + (i : Int) * 1 = row
    have vlen := rowV_len row nodes.length
    have vb := rowV_bits row nodes.length
    refine As_name (.inr ⟨rfl, rfl⟩) (Exs_hide fun QQ kQ => Exs_cons (Ex_assign_comp (fun j acc σ'' => σ'' = σ' ∧ acc = ((rowV row nodes.length).take j).map AV.int)
      (EvIt_range (Ev_builtin C.top C.nrange rfl rfl ⟨rfl, Ev_local (Rho.skip (hS.get q5)) rfl ⟨nodes.length, rfl, by omega, by omega, ?_, ⟨rfl, rfl⟩, fun _ _ _ _ _ => trivial, ?_, ?_⟩⟩))))
    · rw [rng_length, sizeLine_eq]; omega
    · rintro Cc j v acc σ'' hv ⟨rfl, rfl⟩
      obtain ⟨hj, rfl⟩ := rng_get hv
      have hj' : j < nodes.length := by simpa using hj
      show Ev _ _ _ _ _ _ _ _ _
      refine Ev_rowbit (row := row) (t := j) (by omega) (Ev_cell (Rho.skip (inner_get rfl)) rfl rfl ⟨rfl, rfl⟩) (Ev_local rfl rfl ⟨by congr 1; omega, rfl⟩) ?_
      refine ⟨rfl, ?_⟩
      rw [List.take_add_one, rowV_at hj']
      simp [rowI]
    · rintro V acc σ'' ⟨rfl, rfl⟩ hV hV0
      have et : (rowV row nodes.length).take (rng 0 1 (Int.toNat (nodes.length : Int))).length = rowV row nodes.length := by
        rw [rng_length]; exact List.take_of_length_le (by rw [vlen]; omega)
      rw [et]
      have le1 := AS.le_trans hle (AS.le_set hV (o := .list ((rowV row nodes.length).map AV.int)))
      have hVl : (σ''.set V (.list ((rowV row nodes.length).map AV.int))) V = some (.list ((rowV row nodes.length).map AV.int)) := AS.set_same ..
      have hS1 : Same ["row", "values", "due", "node", "pair", "model", "held"] ρ₁ ((ρ'.set "row" (.int row)).set "values" (.obj V)) := (hS.set).set
      have k1 : ((ρ'.set "row" (.int row)).set "values" (.obj V)) "values" = some (.obj V) := rfl
      show Exs _ _ _ _ _ _ _ _ _
      generalize (σ''.set V (.list ((rowV row nodes.length).map AV.int))) = σ₂ at le1 hVl
      generalize ((ρ'.set "row" (.int row)).set "values" (.obj V)) = ρ₂ at hS1 k1
      generalize hvs : rowV row nodes.length = vs at vlen vb hVl
      have s2 := s.le le1
      have vat : ∀ k, k < nodes.length → seqAt (vs.map AV.int) k (.int (vs.getD k 0)) := fun k hk => seqAt_nat (by
        rw [List.getElem?_map, List.getElem?_eq_getElem (by omega)]
        simp [List.getD, show k < vs.length by omega]) (by rw [List.length_map]; omega)
      have hpos := P.ok.pos
      -- due
      refine Exs_cons (Ex_assign (Ev.mono (Q := fun v σ' => v = .bool (due0 bl vs) ∧ σ' = σ₂) ?_ ?_) (.inl rfl))
      · refine Ev_or (Ev_cmp (Ev_int (Ev_cell (hS1.get q4) rfl rfl (Cmp_notin_int s2.below (Truthy_bool ?_)))))
        show if (!hasI bl 0) = true then _ else _
        unfold due0
        cases hb : hasI bl 0 with
        | false => exact ⟨by rw [show (bl.any fun x => x == 0) = false from hb]; simp, rfl⟩
        | true =>
          refine if_f rfl ?_
          refine Ev_one (Ev_cmp (Ev_sub (Ev_local k1 rfl ?_)))
          repeat walk_at "m E"
          refine ⟨V, _, 0, _, rfl, rfl, hVl, vat 0 hpos, ?_⟩
          repeat walk_at "m E"
          exact ⟨rfl, rfl⟩
      rintro v σ' ⟨rfl, rfl⟩
      refine Exs_cons (Ex_for (fun j vs' ρ'' σ'' => Same ["row", "values", "due", "node", "pair", "model", "held"] ρ₁ ρ'' ∧ σ'' = σ' ∧ ρ'' "values" = some (.obj V) ∧ ρ'' "due" = some (.bool (dueF nodes bl vs j)))
        (EvIt_range (Ev_builtin C.top C.nrange rfl rfl ⟨rfl, Ev_local (Rho.skip (hS1.get q5)) rfl ⟨nodes.length, rfl, by omega, by omega, ⟨hS1.set, rfl, k1, by rw [show dueF nodes bl vs 0 = due0 bl vs from by unfold dueF; simp]; rfl⟩, fun _ _ _ _ _ => trivial, ?_, ?_⟩⟩)))
      · rintro j v ρ'' σ'' hv ⟨hS2, rfl, hvv, hdue⟩
        obtain ⟨hj, rfl⟩ := rng_get hv
        have hj' : j < nodes.length := by simpa using hj
        have ej : 0 + (j : Int) * 1 = (j : Int) := by omega
        rw [ej]
        obtain ⟨nd, hnd⟩ : ∃ a, nodes[j]? = some a := ⟨_, List.getElem?_eq_getElem hj'⟩
        refine As_name (.inl rfl) (Exs_hide fun Q2 k2 => Exs_cons (Ex_assign ?_ (.inl rfl)))
        refine Ev_sub (Ev_nodes C.kin W.c.cls (Ev_local (Rho.skip (hS2.get q1)) rfl ⟨x, d, nl, _, nodes, rfl, s2.gr.aig, Ev_local rfl rfl ⟨nl, _, j, ndAV nd, rfl, rfl, s2.gr.gn, seqAt_nat (by rw [List.getElem?_map, hnd]; rfl) (by rw [List.length_map]; omega), ?_⟩⟩))
        have hS3 : Same ["row", "values", "due", "node", "pair", "model", "held"] ρ₁ ((ρ''.set "node" (.int j)).set "pair" (ndAV nd)) := (hS2.set).set
        have w1 : ((ρ''.set "node" (.int j)).set "pair" (ndAV nd)) "node" = some (.int j) := rfl
        have w2 : ((ρ''.set "node" (.int j)).set "pair" (ndAV nd)) "pair" = some (ndAV nd) := rfl
        have w3 : ((ρ''.set "node" (.int j)).set "pair" (ndAV nd)) "values" = some (.obj V) := hvv
        have w4 : ((ρ''.set "node" (.int j)).set "pair" (ndAV nd)) "due" = some (.bool (dueF nodes bl vs j)) := hdue
        show Exs _ _ _ _ _ _ _ _ _
        generalize ((ρ''.set "node" (.int j)).set "pair" (ndAV nd)) = ρ₃ at hS3 w1 w2 w3 w4
        have stay : dueAt nodes bl vs j = true → ρ₃ "due" = some (.bool (dueF nodes bl vs (j + 1))) := fun e => by rw [dueF_succ, e, Bool.and_true]; exact w4
        refine Exs_cons (Ex_if (Tr_and (Tr_cmp (Ev_local w1 rfl (Ev_cell (hS3.get q4) rfl rfl (Cmp_in_int s2.below (Truthy_bool ?_)))))))
        cases hb : (bl.any fun z => z == (j : Int)) with
        | false =>
          refine if_f rfl (if_f rfl (Exs_nil (Exs_nil (k2 _ _ _ ⟨hS3, rfl, w3, stay ?_⟩))))
          unfold dueAt
          rw [hnd]
          have : hasI bl j = false := hb
          rw [this]
          cases nd with
          | none => rfl
          | some p => rfl
        | true =>
          refine if_t rfl (Tr_and (Tr_cmp (Ev_local w2 rfl (Ev_none ?_))))
          cases nd with
          | none =>
            refine Cmp_isnot_none (Truthy_bool (if_f rfl (if_f rfl (Exs_nil (Exs_nil (k2 _ _ _ ⟨hS3, rfl, w3, stay ?_⟩))))))
            unfold dueAt
            rw [hnd]
          | some p =>
            obtain ⟨l, r⟩ := p
            obtain ⟨l0, r0, l1, r1⟩ := P.ok.topo j l r hnd
            refine Cmp_isnot_tup (Truthy_bool (if_t rfl (Tr_and_nil (if_t rfl ?_))))
            refine Exs_cons (Ex_assign (Ev_and (Ev_local w4 rfl (Truthy_bool ?_))) (.inl rfl))
            have hd1 : dueAt nodes bl vs j = (vs.getD j 0 == Builtin.bitAnd (ofF vs l 1) (ofF vs r 1)) := by
              unfold dueAt
              rw [hnd]
              have : hasI bl j = true := hb
              simp [this]
            cases hdj : dueF nodes bl vs j with
            | false =>
              refine if_f rfl (Exs_nil (Exs_nil (k2 _ _ _ ⟨hS3.set, rfl, w3, ?_⟩)))
              rw [dueF_succ, hdj]; rfl
            | true =>
              refine if_t rfl (Ev_one (Ev_cmp (Ev_sub (Ev_local w3 rfl (Ev_local w1 rfl ⟨V, _, _, _, rfl, rfl, hVl, vat j hj', ?_⟩)))))
              refine Ev_bin ?_
              refine Ev_callK C.kin (Ev_global C.top W.of_.glob rfl ⟨_, rfl, W.of_.keep, Evs_cons (Ev_local w3 rfl (Evs_cons (Ev_subtup (Ev_local w2 rfl (Ev_int ⟨_, 0, .int l, rfl, rfl, by decide, by decide, rfl, ?_⟩)))))⟩)
              refine Evs_cons (Ev_int (Evs_nil (law_of_spec (n := n + 5) C W.of_.at' hVl l0 (by rw [fdiv2]; omega) (by omega) ?_)))
              refine Ev_callK C.kin (Ev_global C.top W.of_.glob rfl ⟨_, rfl, W.of_.keep, Evs_cons (Ev_local w3 rfl (Evs_cons (Ev_subtup (Ev_local w2 rfl (Ev_int ⟨_, 1, .int r, rfl, rfl, by decide, by decide, rfl, ?_⟩)))))⟩)
              refine Evs_cons (Ev_int (Evs_nil (law_of_spec (n := n + 5) C W.of_.at' hVl r0 (by rw [fdiv2]; omega) (by omega) ?_)))
              refine Bin_and (Cmp_ieq (Exs_nil (Exs_nil (k2 _ _ _ ⟨hS3.set, rfl, w3, ?_⟩))))
              rw [dueF_succ, hdj, hd1]; rfl
      · rintro ρ₃ σ₃ ⟨hS2, rfl, hvv, hdue⟩
        rw [rng_length] at hdue
        simp only [Int.toNat_natCast] at hdue
        -- the model
        refine Exs_cons (Ex_assign ?_ (.inr ⟨rfl, rfl⟩))
        refine Ev_bin (Ev_list (Evs_cons (Ev_bool (Evs_nil ⟨Nat.le_of_ble_eq_true rfl, fun E hE hE0 => ?_⟩))))
        refine Ev_comp (fun j acc σ'' => σ'' = σ₃.set E (.list [.bool false]) ∧ acc = ((vs.map fun v => v == 1).take j).map AV.bool)
          (EvIt_list (Ev_local hvv rfl ⟨V, _, rfl, AS.get1 (ne_of hE hVl) hVl, by rw [List.length_map, sizeLine_eq]; omega, ⟨rfl, rfl⟩, fun i acc σ'' _ hi => by rw [hi.1]; exact AS.get1 (ne_of hE hVl) hVl, ?_, ?_⟩))
        · rintro Cc j v acc σ'' hv ⟨rfl, rfl⟩
          obtain ⟨z, hz, rfl⟩ : ∃ z, vs[j]? = some z ∧ v = .int z := by
            simp only [List.getElem?_map, Option.map_eq_some_iff] at hv
            obtain ⟨l, h1, h2⟩ := hv; exact ⟨l, h1, h2.symm⟩
          show Ev _ _ _ _ _ _ _ _ _
          repeat walk_at "m E"
          refine ⟨rfl, ?_⟩
          rw [List.take_add_one, List.getElem?_map, hz]
          simp
        · rintro D₁ acc σ'' ⟨rfl, rfl⟩ hD₁ hD₁0
          rw [List.length_map]
          obtain ⟨hD₁', n1⟩ := AS.get0 hD₁
          have et2 : ((vs.map fun v => v == 1).take vs.length) = vs.map fun v => v == 1 := List.take_of_length_le (by rw [List.length_map]; omega)
          rw [et2]
          refine Bin_addlist (AS.get1 n1 (AS.set_same ..)) (AS.set_same ..) (by rw [List.length_map, List.length_map, sizeLine_eq]; show 1 + _ ≤ _; omega) fun M hM hM0 => ?_
          have em : [AV.bool false] ++ (vs.map fun v => v == 1).map AV.bool = (modelF vs).map AV.bool := rfl
          rw [em]
          have le3 := AS.le_trans (AS.le_set hE (o := .list [.bool false])) (AS.le_trans (AS.le_set hD₁ (o := .list ((vs.map fun v => v == 1).map AV.bool))) (AS.le_set hM (o := .list ((modelF vs).map AV.bool))))
          have hMl : (((σ₃.set E (.list [.bool false])).set D₁ (.list ((vs.map fun v => v == 1).map AV.bool))).set M (.list ((modelF vs).map AV.bool))) M = some (.list ((modelF vs).map AV.bool)) := AS.set_same ..
          have hS4 : Same ["row", "values", "due", "node", "pair", "model", "held"] ρ₁ (ρ₃.set "model" (.obj M)) := hS2.set
          have y1 : (ρ₃.set "model" (.obj M)) "model" = some (.obj M) := rfl
          have y2 : (ρ₃.set "model" (.obj M)) "due" = some (.bool (dueF nodes bl vs nodes.length)) := hdue
          show Exs _ _ _ _ _ _ _ _ _
          generalize (((σ₃.set E (.list [.bool false])).set D₁ (.list ((vs.map fun v => v == 1).map AV.bool))).set M (.list ((modelF vs).map AV.bool))) = σ₄ at le3 hMl
          generalize (ρ₃.set "model" (.obj M)) = ρ₄ at hS4 y1 y2
          have s4 := s2.le le3
          have mlen : (modelF vs).length = nodes.length + 1 := by unfold modelF; rw [List.length_cons, List.length_map, vlen]
          have hvar : ∀ c ∈ cl, ∀ l ∈ c, l.natAbs < (modelF vs).length := fun c hc l hl => by
            obtain ⟨_, h2⟩ := P.vars hc
            obtain ⟨_, k, a, b, _⟩ := h2 l hl
            omega
          -- held
          refine Exs_cons (Ex_assign (Ev_cmp (Ev_bool ?_)) (.inl rfl))
          refine Ev_comp (fun i acc σ'' => AS.le σ₄ σ'' ∧ acc = ((cl.take i).map (clauseHolds (modelF vs))).map AV.bool)
            (EvIt_list (Ev_local (hS4.get q2) rfl ⟨CL, _, rfl, s4.cla, by rw [hcz, sizeLine_eq]; omega, ⟨AS.le_refl _, rfl⟩, fun i acc σ'' _ hi => hi.1 _ _ s4.cla, ?_, ?_⟩))
          · rintro Cc i v acc σ₅ hv ⟨hle5, rfl⟩
            obtain ⟨c, hc, rfl⟩ : ∃ c, cl[i]? = some c ∧ v = .tup (c.map .int) := by
              simp only [clAV, List.getElem?_map, Option.map_eq_some_iff] at hv
              obtain ⟨l, h1, h2⟩ := hv; exact ⟨l, h1, h2.symm⟩
            have hcm := List.mem_of_getElem? hc
            have hc3 := (P.vars hcm).1
            have hM5 := hle5 _ _ hMl
            show Ev _ _ _ _ _ _ _ _ _
            refine Ev_cmp (Ev_bool ?_)
            refine Ev_comp (fun j acc σ'' => σ'' = σ₅ ∧ acc = ((c.take j).map (litHolds (modelF vs))).map AV.bool)
              (EvIt_tup (Ev_local rfl rfl ⟨_, rfl, by rw [List.length_map, sizeLine_eq]; omega, ⟨rfl, rfl⟩, fun _ _ _ _ _ => trivial, ?_, ?_⟩))
            · rintro Cd j v acc σ'' hv ⟨rfl, rfl⟩
              obtain ⟨l, hl, rfl⟩ : ∃ l, c[j]? = some l ∧ v = .int l := by
                simp only [List.getElem?_map, Option.map_eq_some_iff] at hv
                obtain ⟨l, h1, h2⟩ := hv; exact ⟨l, h1, h2.symm⟩
              have hlt := hvar c hcm l (List.mem_of_getElem? hl)
              show Ev _ _ _ _ _ _ _ _ _
              refine Ev_cmp (Ev_sub (Ev_cell (Rho.skip (inner_get (Rho.skip (inner_get y1)))) rfl rfl ?_))
              repeat walk_at "m E"
              refine Cl_abs ?_
              have ea : (if l < 0 then -l else l) = ((l.natAbs : Nat) : Int) := by split <;> omega
              rw [ea]
              refine ⟨M, _, _, .bool ((modelF vs).getD l.natAbs false), rfl, rfl, hM5, seqAt_nat (by rw [List.getElem?_map, List.getElem?_eq_getElem hlt]; simp [List.getD, hlt]) (by rw [List.length_map, mlen]; omega), ?_⟩
              repeat walk_at "m E"
              refine ⟨rfl, ?_⟩
              rw [List.take_add_one, hl]
              simp [litHolds]
            · rintro D₂ acc σ'' ⟨rfl, rfl⟩ hD₂ hD₂0
              rw [List.length_map, List.take_length]
              refine Cmp_in_bool (AS.set_same ..) ⟨AS.le_trans hle5 (AS.le_set hD₂), ?_⟩
              rw [List.take_add_one, hc, List.map_append, List.map_append]
              have : ((c.map (litHolds (modelF vs))).any fun z => z == true) = clauseHolds (modelF vs) c := by
                unfold clauseHolds
                rw [List.any_map]
                congr 1
                funext z
                simp
              rw [this]; rfl
          · rintro D₂ acc σ₅ ⟨hle5, rfl⟩ hD₂ hD₂0
            rw [hcz, List.take_length]
            have esat : (!((cl.map (clauseHolds (modelF vs))).any fun z => z == false)) = satF cl (modelF vs) := by
              unfold satF
              rw [List.any_map, List.all_eq_not_any_not]
              congr 2
              funext z
              simp
            refine Cmp_notin_bool (AS.set_same ..) ?_
            rw [esat]
            have hsd : satF cl (modelF vs) = dueF nodes bl vs nodes.length := by
              rw [P.hcl, P.hbl]
              exact sat_due P.ok.topo P.hl P.ok.zero vb vlen
            have le6 := AS.le_trans hle5 (AS.le_set hD₂ (o := .list ((cl.map (clauseHolds (modelF vs))).map AV.bool)))
            show Exs _ _ _ _ _ _ _ _ _
            generalize (σ₅.set D₂ (.list ((cl.map (clauseHolds (modelF vs))).map AV.bool))) = σ₆ at le6
            refine Exs_cons (Ex_if (Tr_or (Tr_cmp (Ev_local rfl rfl (Ev_local (Rho.skip y2) rfl (Cmp_bne (Truthy_bool (if_f (by rw [hsd]; simp) ?_))))))))
            refine Tr_or (Tr_cmp ?_)
            refine Ev_callK C.kin (Ev_global C.top W.sat.glob rfl ⟨_, rfl, W.sat.keep, Evs_cons (Ev_local (Rho.skip (hS4.get q2)) rfl (Evs_cons (Ev_cell (Rho.skip y1) rfl rfl (Evs_nil ?_))))⟩)
            refine satisfies_spec (n := n + 5) C W.sat.at' (le6 _ _ s4.cla) (le6 _ _ hMl) hvar (by omega) ?_
            refine Ev_local rfl rfl (Cmp_bne (Truthy_bool (if_f (by simp) (Tr_or_nil (if_f rfl (Exs_nil (Exs_nil (kQ _ _ _ ⟨hS4.set, ?_⟩))))))))
            exact AS.le_trans le1 (AS.le_trans le3 le6)
  · rintro ρ' σ' ⟨hS, hle⟩
    exact partC W P (s.le hle) hil hn (hS.get q5) (hS.get q2) (hS.get q3)
end
-- Pr15
section
variable {prog : Program} {w : World} {h₀ : Heap} {n : Nat} {σ : AS} {mg mb : Str → Option Value} {K : Frag} {fs : FA} {env : Env} {ρ : Rho}
variable {H cells x d nl il ol tl kn B CL V : Addr} {ns : List Int} {nodes : List Nd} {ins : List AV} {es : List (List Int × Int)} {ks lits bl : List Int} {cl : List (List Int)} {qual : Str} {cdv : Value} {L f : Addr}

theorem seq_map {α : Type} {g : α → AV} {l : List α} {i : Nat} {v : AV} (h : (l.map g)[i]? = some v) : ∃ a, l[i]? = some a ∧ v = g a := by
  rw [List.getElem?_map] at h
  obtain ⟨a, h1, h2⟩ := Option.map_eq_some_iff.mp h
  exact ⟨a, h1, h2.symm⟩

theorem partA2 (W : LW h₀ mg mb K fs) (P : LP nodes es lits bl cl) (s : LS fs σ H cells x d nl il ol tl B CL ns nodes ins es bl cl) (hil : il ≠ H) (hn : ns.length ≤ 63) (hV : σ V = some (.list ((numL nodes.length (coneF nodes lits)).map .int)))
    (r1 : ρ "aig" = some (.obj x)) (r2 : ρ "clauses" = some (.obj CL)) (r3 : ρ "hand" = some (.obj H)) (r4 : ρ "belows" = some (.obj B)) (r5 : ρ "numbers_of" = some (.obj V)) :
    Exs prog w h₀ (n + 6) (LE qual cdv L f) ρ σ ((dBody (stAt 20)).drop 8) fun fl _ _ => fl.out = .bool true := by
  have C := W.C
  have n10 := P.n10
  have hclz := P.cl_len
  have hcz : (clAV cl).length = cl.length := by unfold clAV; rw [List.length_map]
  have hnum : numL nodes.length (coneF nodes lits) = (List.range nodes.length).map fun (k : Nat) => if hasI bl k then (k : Int) + 1 else 0 := by
    rw [P.hbl]; exact numL_eq P.ok.topo P.hl P.ok.pos
  have hlen : (numL nodes.length (coneF nodes lits)).length = nodes.length := numL_length ..
  refine Exs_cons (Ex_if (Tr_cmp ?_))
  refine Ev_callv (Ev_builtin C.top C.nlist rfl rfl ⟨_, rfl, rfl, Evs_cons (Ev_local r5 rfl (Evs_nil (Cl_list hV (by rw [List.length_map, hlen, sizeLine_eq]; omega) fun V' hV' hV'0 => ?_)))⟩)
  have s1 := s.le (AS.le_set hV' (o := .list ((numL nodes.length (coneF nodes lits)).map AV.int)))
  have v1 : (σ.set V' (.list ((numL nodes.length (coneF nodes lits)).map AV.int))) V' = some (.list ((numL nodes.length (coneF nodes lits)).map AV.int)) := AS.set_same ..
  generalize (σ.set V' (.list ((numL nodes.length (coneF nodes lits)).map AV.int))) = σ₁ at s1 v1
  refine Ev_comp (fun j acc σ'' => σ'' = σ₁ ∧ acc = ((List.range j).map fun (k : Nat) => if hasI bl k then (k : Int) + 1 else 0).map AV.int)
    (EvIt_range (Ev_builtin C.top C.nrange rfl rfl ⟨rfl, Ev_lennodes C W.c.cls (Ev_local r1 rfl ⟨x, d, nl, _, nodes, rfl, s1.gr.aig, by omega, nodes.length, rfl, by omega, by omega, ?_, ⟨rfl, rfl⟩, fun _ _ _ _ _ => trivial, ?_, ?_⟩)⟩))
  · rw [rng_length, sizeLine_eq]; omega
  · rintro Cc j v acc σ'' hv ⟨rfl, rfl⟩
    obtain ⟨hj, rfl⟩ := rng_get hv
    have ej : 0 + (j : Int) * 1 = (j : Int) := by omega
    rw [ej]
    have er : ((List.range (j + 1)).map fun (k : Nat) => if hasI bl k then (k : Int) + 1 else 0).map AV.int = ((List.range j).map fun (k : Nat) => if hasI bl k then (k : Int) + 1 else 0).map AV.int ++ [AV.int (if hasI bl j then (j : Int) + 1 else 0)] := by
      rw [List.range_succ, List.map_append, List.map_append]; rfl
    show Ev _ _ _ _ _ _ _ _ _
    refine Ev_ifexp (Tr_cmp (Ev_local rfl rfl (Ev_cell (Rho.skip (inner_get r4)) rfl rfl (Cmp_in_int s1.below (Truthy_bool ?_)))))
    show if hasI bl j = true then _ else _
    cases hb : hasI bl j with
    | true =>
      refine if_t rfl (Ev_bin (Ev_local rfl rfl (Ev_int (Bin_add ⟨rfl, ?_⟩))))
      rw [er, hb]; rfl
    | false =>
      refine if_f rfl (Ev_int ⟨rfl, ?_⟩)
      rw [er, hb]; rfl
  · rintro D acc σ'' ⟨rfl, rfl⟩ hD hD0
    rw [rng_length]
    simp only [Int.toNat_natCast]
    refine Cmp_nelist (by omega) (AS.get1 (ne_of hD v1) v1) (AS.set_same ..) (Truthy_bool (if_f ?_ (Exs_nil ?_)))
    · rw [hnum]; simp
    have s2 := s1.le (AS.le_set hD (o := .list (((List.range nodes.length).map fun (k : Nat) => if hasI bl k then (k : Int) + 1 else 0).map AV.int)))
    generalize (σ''.set D (.list (((List.range nodes.length).map fun (k : Nat) => if hasI bl k then (k : Int) + 1 else 0).map AV.int))) = σ₂ at s2
    refine Exs_cons (Ex_if (Tr_cmp (Ev_bool ?_)))
    refine Ev_comp2 (fun i acc σ'' => σ'' = σ₂ ∧ ∃ bs : List Bool, acc = bs.map AV.bool ∧ (∀ b ∈ bs, b = true) ∧ bs.length ≤ 3 * i)
      (EvIt_list (Ev_local r2 rfl ⟨CL, _, rfl, s2.cla, ⟨rfl, [], rfl, fun _ h => (nomatch h), Nat.le_refl _⟩, fun i acc σ'' _ hi => by rw [hi.1]; exact s2.cla, ?_, ?_⟩))
    · rintro Cc i v acc σ'' ρ' hv ⟨rfl, bs, rfl, hbs, hbl⟩ hbut hx
      obtain ⟨c, hc, rfl⟩ := seq_map (g := fun c : List Int => AV.tup (c.map .int)) hv
      have hcm := List.mem_of_getElem? hc
      have hi : i < cl.length := (List.getElem?_eq_some_iff.mp hc).1
      obtain ⟨hc3, hcv⟩ := P.vars hcm
      refine EvIt_tup (Ev_local hx rfl ⟨_, rfl, fun j acc σ₃ => σ₃ = σ'' ∧ ∃ bs : List Bool, acc = bs.map AV.bool ∧ (∀ b ∈ bs, b = true) ∧ bs.length ≤ 3 * i + j, ⟨rfl, bs, rfl, hbs, hbl⟩, fun _ _ _ _ _ => trivial, ?_, ?_⟩)
      · rintro j u acc σ₃ ρ'' hu ⟨rfl, bs', rfl, hbs', hbl'⟩ hbut' hx' hy
        obtain ⟨l, hl, rfl⟩ := seq_map (g := AV.int) hu
        obtain ⟨hl0, k, ek, hk, hkb⟩ := hcv l (List.mem_of_getElem? hl)
        have hj : j < c.length := (List.getElem?_eq_some_iff.mp hl).1
        refine ⟨by rw [List.length_map, sizeLine_eq]; omega, ?_⟩
        have gb : ρ'' "belows" = some (.obj B) := by
          rw [hbut' "belows" (by decide) (by decide)]
          exact inner_get r4
        refine Ev_cmp (Ev_bin ?_)
        refine Ev_callv (Ev_builtin C.top C.nabs rfl rfl ⟨_, rfl, rfl, Evs_cons (Ev_local hy rfl (Evs_nil (Cl_abs ?_)))⟩)
        refine Ev_int (Bin_sub (Ev_cell gb rfl rfl (Cmp_in_int s2.below ?_)))
        have e1 : (if l < 0 then -l else l) - 1 = (k : Int) := by split <;> omega
        rw [e1]
        have e2 : (bl.any fun z => z == (k : Int)) = true := hkb
        rw [e2]
        exact ⟨rfl, bs' ++ [true], by rw [List.map_append]; rfl, fun b hb => by
          rcases List.mem_append.mp hb with q | q
          · exact hbs' b q
          · exact List.mem_singleton.mp q, by rw [List.length_append, List.length_singleton]; omega⟩
      · rintro acc σ₃ ⟨rfl, bs', rfl, hbs', hbl'⟩
        rw [List.length_map] at hbl'
        exact ⟨rfl, bs', rfl, hbs', by omega⟩
    · rintro D₂ acc σ'' ⟨rfl, bs, rfl, hbs, hbl⟩ hD₂ hD₂0
      refine Cmp_in_bool (AS.set_same ..) (Truthy_bool (if_f ?_ (Exs_nil ?_)))
      · rw [List.any_eq_false]
        intro b hb
        rw [hbs b hb]; decide
      · exact partB W P (s2.le (AS.le_set hD₂)) hil hn r1 r2 r3 r4
end
-- Pr16
section
variable {prog : Program} {w : World} {h₀ : Heap} {n : Nat} {σ : AS} {mg mb : Str → Option Value} {K : Frag} {fs : FA} {env : Env} {ρ : Rho}
variable {H cells x d nl il ol tl kn B CL V : Addr} {ns : List Int} {nodes : List Nd} {ins : List AV} {es : List (List Int × Int)} {ks lits bl : List Int} {cl : List (List Int)} {qual : Str} {cdv : Value} {L f : Addr}

theorem partA1 (W : LW h₀ mg mb K fs) {σ₀ : AS} (g : GS fs.Aig σ₀ σ H cells ns.length x d nl il ol tl kn nodes ins es ks) (hc : σ₀ cells = some (.list (ns.map .int))) (hcH : cells ≠ H) (hn : ns.length ≤ 63) (n10 : nodes.length ≤ 10) (k1 : 1 ≤ ks.length) (k6 : ks.length ≤ 6)
    (r1 : ρ "aig" = some (.obj x)) (r2 : ρ "known" = some (.obj kn)) (r3 : ρ "hand" = some (.obj H)) :
    Exs prog w h₀ (n + 6) (LE qual cdv L f) ρ σ ((dBody (stAt 20)).drop 4) fun fl _ _ => fl.out = .bool true := by
  have C := W.C
  have hcells : ∀ {σ'} {nodes ins es ks}, GS fs.Aig σ₀ σ' H cells ns.length x d nl il ol tl kn nodes ins es ks → σ' cells = some (.list (ns.map .int)) := fun g => g.le _ _ hcH hc
  obtain ⟨hs, w1, w2⟩ := g.hand
  refine Exs_cons (Ex_assign_comp (fun j acc σ'' => ∃ vs : List Int, acc = vs.map .int ∧ vs.length = j ∧ (∀ v ∈ vs, Valid nodes v) ∧ GS fs.Aig σ₀ σ'' H cells ns.length x d nl il ol tl kn nodes ins es ks)
    (EvIt_range (Ev_builtin C.top C.nrange rfl rfl ⟨rfl, Ev_bin (Ev_int ?_)⟩)))
  refine Ev_callK C.kin (Ev_global C.top W.pick.glob rfl ⟨_, rfl, W.pick.keep, Evs_cons (Ev_cell r3 rfl rfl (Evs_cons (Ev_int (Evs_nil ?_))))⟩)
  refine pick_spec (n := n + 5) C W.pick.at' (by decide) (by decide) (hcells g) hn w1 w2 fun r hs' hr0 hr1 hv' => ?_
  refine Bin_add ⟨1 + r, rfl, by omega, by omega, ?_, ⟨[], rfl, rfl, fun _ h => (nomatch h), g.setH hv'⟩, fun _ _ _ _ _ => trivial, ?_, ?_⟩
  · rw [rng_length, sizeLine_eq]; omega
  · rintro Cc j v acc σ'' hv ⟨vs, rfl, rfl, hvs, g2⟩
    refine elt_spec (n := n + 5) C W.pick g2 (hcells g2) hn (by decide) (by decide) k1 (by omega) (Rho.skip (inner_get r2)) (Rho.skip (inner_get r3)) rfl rfl rfl rfl rfl rfl rfl fun v hs' hval hh => ?_
    refine ⟨vs ++ [v], by rw [List.map_append]; rfl, by rw [List.length_append, List.length_singleton], fun z hz => ?_, g2.setH hh⟩
    rcases List.mem_append.mp hz with q | q
    · exact hvs z q
    · rw [List.mem_singleton.mp q]; exact hval
  · rintro LT acc σ₁ ⟨lits, rfl, hll, hlv, g3⟩ hLT hLT0
    rw [rng_length] at hll
    have hl2 : lits.length ≤ 2 := by omega
    have g4 := g3.setN (.list (lits.map .int)) hLT
    have lt4 : (σ₁.set LT (.list (lits.map .int))) LT = some (.list (lits.map .int)) := AS.set_same ..
    have q1 : (ρ.set "literals" (.obj LT)) "aig" = some (.obj x) := r1
    have q3 : (ρ.set "literals" (.obj LT)) "hand" = some (.obj H) := r3
    have q4 : (ρ.set "literals" (.obj LT)) "literals" = some (.obj LT) := rfl
    show Exs _ _ _ _ _ _ _ _ _
    generalize (σ₁.set LT (.list (lits.map .int))) = σ₂ at g4 lt4
    generalize (ρ.set "literals" (.obj LT)) = ρ₁ at q1 q3 q4
    -- belows
    refine Exs_cons (Ex_assign ?_ (.inr ⟨rfl, rfl⟩))
    refine Ev_comp (fun j acc σ'' => σ'' = σ₂ ∧ acc = ((lits.take j).map fun l => l.fdiv 2).map AV.int)
      (EvIt_list (Ev_local q4 rfl ⟨LT, _, rfl, lt4, by rw [List.length_map, sizeLine_eq]; omega, ⟨rfl, rfl⟩, fun i acc σ'' _ hi => by rw [hi.1]; exact lt4, ?_, ?_⟩))
    · rintro Cc j v acc σ'' hv ⟨rfl, rfl⟩
      obtain ⟨l, hl, rfl⟩ := seq_map (g := AV.int) hv
      show Ev _ _ _ _ _ _ _ _ _
      refine Ev_bin (Ev_local rfl rfl (Ev_int (Bin_fdiv (by decide) (by decide) ⟨rfl, ?_⟩)))
      rw [List.take_add_one, hl]
      simp
    · rintro B acc σ'' ⟨rfl, rfl⟩ hB hB0
      rw [List.length_map, List.take_length]
      have hBl : (σ''.set B (.list ((lits.map fun l => l.fdiv 2).map AV.int))) B = some (.list ((lits.map fun l => l.fdiv 2).map AV.int)) := AS.set_same ..
      have hle0 : AS.le σ'' (σ''.set B (.list ((lits.map fun l => l.fdiv 2).map AV.int))) := AS.le_set hB
      have z1 : (ρ₁.set "belows" (.obj B)) "aig" = some (.obj x) := q1
      have z3 : (ρ₁.set "belows" (.obj B)) "hand" = some (.obj H) := q3
      have z4 : (ρ₁.set "belows" (.obj B)) "literals" = some (.obj LT) := q4
      have z5 : (ρ₁.set "belows" (.obj B)) "belows" = some (.obj B) := rfl
      show Exs _ _ _ _ _ _ _ _ _
      generalize (σ''.set B (.list ((lits.map fun l => l.fdiv 2).map AV.int))) = σ₃ at hBl hle0
      generalize (ρ₁.set "belows" (.obj B)) = ρ₂ at z1 z3 z4 z5
      have hblen : ∀ i, i ≤ 9 → (bsweep nodes (lits.map fun l => l.fdiv 2) i).length ≤ 20 := fun i hi => by
        have := bsweep_len nodes (lits.map fun l => l.fdiv 2) i
        rw [List.length_map] at this
        omega
      have gr2 := g4.gr
      refine Exs_cons (Ex_for (fun i vs ρ' σ' => Same ["node", "belows"] ρ₂ ρ' ∧ ρ' "belows" = some (.obj B) ∧ AS.le σ'' σ' ∧ σ' B = some (.list ((bsweep nodes (lits.map fun l => l.fdiv 2) i).map AV.int)))
        (EvIt_downnodes C W.c.cls (Ev_local z1 rfl ⟨x, d, nl, _, nodes, rfl, gr2.aig.le hle0, by omega, ⟨.refl, z5, hle0, hBl⟩, fun _ _ _ _ _ => trivial, ?_, ?_⟩)))
      · rintro i v ρ' σ' hv ⟨hS, hbel, hle, hBi⟩
        obtain ⟨hi, rfl⟩ := rng_get hv
        have ev : (nodes.length : Int) - 1 + (i : Int) * (-1) = ((nodes.length - 1 - i : Nat) : Int) := by omega
        rw [ev]
        generalize hk : nodes.length - 1 - i = k
        have hklt : k < nodes.length := by omega
        have hbl := hblen i (by omega)
        have hsucc : bsweep nodes (lits.map fun l => l.fdiv 2) (i + 1) = bstep nodes (bsweep nodes (lits.map fun l => l.fdiv 2) i) k := by rw [bsweep_succ, hk]
        generalize hb : bsweep nodes (lits.map fun l => l.fdiv 2) i = bi at hBi hbl hsucc
        obtain ⟨nd, hnd⟩ : ∃ a, nodes[k]? = some a := ⟨_, List.getElem?_eq_getElem hklt⟩
        have aig' := gr2.aig.le hle
        have hat : seqAt (nodes.map ndAV) k (ndAV nd) := seqAt_nat (by rw [List.getElem?_map, hnd]; rfl) (by rw [List.length_map]; omega)
        refine As_name (.inl rfl) (Exs_hide fun QQ kQ => Exs_cons (Ex_if (Tr_and (Tr_cmp (Ev_local rfl rfl (Ev_cell (Rho.skip hbel) rfl rfl (Cmp_in_int hBi (Truthy_bool ?_))))))))
        show if hasI bi k = true then _ else _
        cases hh : hasI bi k with
        | false =>
          refine if_f rfl (if_f rfl (Exs_nil (Exs_nil (kQ _ _ _ ⟨hS.set, Rho.skip hbel, hle, ?_⟩))))
          rw [hsucc]; unfold bstep; rw [hh]; exact hBi
        | true =>
          refine if_t rfl (Tr_and (Tr_cmp (Ev_sub (Ev_nodes C.kin W.c.cls (Ev_local (Rho.skip (hS.get z1)) rfl ⟨x, d, nl, _, nodes, rfl, aig', Ev_local rfl rfl ⟨nl, _, k, ndAV nd, rfl, rfl, aig'.list, hat, Ev_none ?_⟩⟩)))))
          cases nd with
          | none =>
            refine Cmp_isnot_none (Truthy_bool (if_f rfl (if_f rfl (Exs_nil (Exs_nil (kQ _ _ _ ⟨hS.set, Rho.skip hbel, hle, ?_⟩))))))
            rw [hsucc]; unfold bstep; rw [hh, hnd]; exact hBi
          | some p =>
            obtain ⟨l, r⟩ := p
            refine Cmp_isnot_tup (Truthy_bool (if_t rfl (Tr_and_nil (if_t rfl ?_))))
            refine Exs_cons (Ex_augcell rfl rfl (Rho.skip hbel) ?_)
            refine Ev_comp (fun j acc σ₄ => σ₄ = σ' ∧ acc = (([l, r].take j).map fun l => l.fdiv 2).map AV.int)
              (EvIt_tup (Ev_sub (Ev_nodes C.kin W.c.cls (Ev_local (Rho.skip (hS.get z1)) rfl ⟨x, d, nl, _, nodes, rfl, aig', Ev_local rfl rfl ⟨nl, _, k, ndAV (some (l, r)), rfl, rfl, aig'.list, hat, [AV.int l, AV.int r], rfl, by rw [sizeLine_eq]; show (2 : Nat) ≤ _; decide, ⟨rfl, rfl⟩, fun _ _ _ _ _ => trivial, ?_, ?_⟩⟩))))
            · rintro Cc j v acc σ₄ hv ⟨rfl, rfl⟩
              obtain ⟨z, hz, rfl⟩ := seq_map (g := AV.int) (l := [l, r]) hv
              show Ev _ _ _ _ _ _ _ _ _
              refine Ev_bin (Ev_local rfl rfl (Ev_int (Bin_fdiv (by decide) (by decide) ⟨rfl, ?_⟩)))
              rw [List.take_add_one, hz]
              simp
            · rintro D acc σ₄ ⟨rfl, rfl⟩ hD hD0
              have n1 := ne_of hD hBi
              have hBσ : σ'' B = none := hB
              refine ⟨D, _, _, rfl, AS.get1 n1 hBi, AS.set_same .., by rw [List.length_map, sizeLine_eq]; show bi.length + 2 ≤ _; omega, ?_⟩
              refine Exs_nil (Exs_nil (kQ _ _ _ ⟨fun y hy => ?_, rfl, AS.le_setr (AS.le_trans hle (AS.le_set hD)) hBσ, ?_⟩))
              · rw [Rho.get_ne (by simp at hy ⊢; exact hy.2), Rho.get_ne (by simp at hy ⊢; exact hy.1)]; exact hS y hy
              · rw [AS.set_same, hsucc]; unfold bstep; rw [hh, hnd]
                show some (AO.list (bi.map AV.int ++ [AV.int (l.fdiv 2), AV.int (r.fdiv 2)])) = some (AO.list ((bi ++ [l.fdiv 2, r.fdiv 2]).map AV.int))
                rw [List.map_append]; rfl
      · rintro ρ₃ σ₄ ⟨hS, hbel, hle, hBi⟩
        rw [rng_length] at hBi
        have hBi' : σ₄ B = some (.list ((belowF nodes lits).map AV.int)) := hBi
        have ls : Lits nodes lits := fun l hl => hlv l hl
        refine Exs_cons (Ex_assign_tup ?_)
        refine Ev_callK C.kin (Ev_global C.top W.cnf.glob rfl ⟨_, rfl, W.cnf.keep, Evs_cons (Ev_local (hS.get z1) rfl (Evs_cons (Ev_local (hS.get z4) rfl (Evs_nil ?_))))⟩)
        obtain ⟨fi, Mi⟩ := W.c.is_and
        refine aig_cnf_spec (n := n + 3) C W.c.cls W.cnf.at' W.cone.at' W.var.at' Mi W.cone.glob W.var.glob W.cone.keep W.var.keep (gr2.aig.le hle) rfl g4.ok.topo ls (hle _ _ lt4) (by omega) g4.ok.pos (by omega) fun CL V hCV hCL hV hCL0 hV0 => ?_
        refine As_tup2 (.inl rfl) (.inl rfl) ?_
        have le5 : AS.le σ₄ ((σ₄.set CL (.list (clAV (cnfL nodes (coneF nodes lits))))).set V (.list ((numL nodes.length (coneF nodes lits)).map .int))) := AS.le_setr (AS.le_set hCL) hV
        have c5 : ((σ₄.set CL (.list (clAV (cnfL nodes (coneF nodes lits))))).set V (.list ((numL nodes.length (coneF nodes lits)).map .int))) CL = some (.list (clAV (cnfL nodes (coneF nodes lits)))) := AS.get1 hCV (AS.set_same ..)
        have v5 : ((σ₄.set CL (.list (clAV (cnfL nodes (coneF nodes lits))))).set V (.list ((numL nodes.length (coneF nodes lits)).map .int))) V = some (.list ((numL nodes.length (coneF nodes lits)).map .int)) := AS.set_same ..
        obtain ⟨hs5, u1, u2⟩ := g4.hand
        have le6 := AS.le_trans hle le5
        have P : LP nodes es lits (belowF nodes lits) (cnfL nodes (coneF nodes lits)) := ⟨g4.ok, n10, ls, hl2, rfl, rfl⟩
        have S : LS fs ((σ₄.set CL (.list (clAV (cnfL nodes (coneF nodes lits))))).set V (.list ((numL nodes.length (coneF nodes lits)).map .int))) H cells x d nl il ol tl B CL ns nodes ins es (belowF nodes lits) (cnfL nodes (coneF nodes lits)) :=
          ⟨le6 _ _ (hcells g4), ⟨hs5, le6 _ _ u1, u2⟩, ⟨le6 _ _ gr2.gx, le6 _ _ gr2.gd, le6 _ _ gr2.gn, le6 _ _ gr2.gi, le6 _ _ gr2.gt, gr2.ne, gr2.nm⟩, le5 _ _ hBi', c5⟩
        exact partA2 W P S g4.hne.2.1 hn v5 (hS.get z1) rfl (hS.get z3) hbel rfl

theorem law_spec (W : LW h₀ mg mb K fs) {f a : Addr} (X : Fn h₀ f (stAt 20)) {vs : List Value} {ns : List Int} (ha : h₀.IsList a vs.toArray) (hi : IntsAre vs ns) (hz : vs.length ≤ sizeLine) :
    Cd prog w h₀ (n + 7) σ (.raw (.ref f)) [.raw (.ref a)] fun v _ => v = .bool true := by
  have C := W.C
  refine Cd_def (names := ["script"]) C.top X ?_ ?_ ?_
  · intro _ _ _ _ _ _ _ vals hl
    match vals, hl with
    | [a], _ => rfl
  · rfl
  intro qual cdv L hL hL0
  refine Exs_cons (Ex_assign ?_ (.inl rfl))
  refine Ev_cutbase (Ev_local rfl rfl (Ev_int ⟨a, vs, ns, 63, rfl, ha, hi, hz, rfl, fun cells hc hc0 => ?_⟩))
  have hn : (ns.take 63).length ≤ 63 := by rw [List.length_take]; omega
  generalize ns.take 63 = ns at hn
  have c1 : (σ.set cells (.list (ns.map .int))) cells = some (.list (ns.map .int)) := AS.set_same ..
  show Exs _ _ _ _ _ _ _ _ _
  generalize (σ.set cells (.list (ns.map .int))) = σ₁ at c1
  refine Exs_cons (Ex_assign ?_ (.inr ⟨rfl, rfl⟩))
  refine Ev_list (Evs_cons (Ev_local rfl rfl (Evs_cons (Ev_int (Evs_cons (Ev_int (Evs_cons (Ev_bin (Ev_bin ?_)))))))))
  refine Ev_callv (Ev_builtin C.top C.nsum rfl rfl ⟨_, rfl, rfl, Evs_cons (Ev_local rfl rfl (Evs_nil (Cl_sum c1 fun sm => ?_)))⟩)
  refine Ev_int (Bin_mod (by decide) (Ev_int (Bin_mul (IntMulOk.of_right (by decide)) (Evs_nil ⟨Nat.le_of_ble_eq_true rfl, fun H hH hH0 => ?_⟩))))
  have fm : 0 ≤ sm.fmod 100003 ∧ sm.fmod 100003 < 100003 := by
    rw [Int.fmod_eq_emod_of_nonneg _ (by decide)]
    exact ⟨Int.emod_nonneg _ (by decide), Int.emod_lt_of_pos _ (by decide)⟩
  have hv : HandV cells ns.length [.obj cells, .int 0, .int 0, .int (sm.fmod 100003 * 7)] := ⟨0, 0, _, rfl, by omega, by omega, by omega, by omega, by omega⟩
  have c2 := AS.get1 (x := .list [.obj cells, .int 0, .int 0, .int (sm.fmod 100003 * 7)]) (ne_of hH c1) c1
  have h2 : (σ₁.set H (.list [.obj cells, .int 0, .int 0, .int (sm.fmod 100003 * 7)])) H = some (.list [.obj cells, .int 0, .int 0, .int (sm.fmod 100003 * 7)]) := AS.set_same ..
  have hcH : cells ≠ H := ne_of hH c1
  show Exs _ _ _ _ _ _ _ _ _
  generalize (σ₁.set H (.list [.obj cells, .int 0, .int 0, .int (sm.fmod 100003 * 7)])) = σ₂ at c2 h2
  refine Exs_cons (Ex_assign ?_ (.inl rfl))
  refine Ev_callK C.kin (Ev_global C.top W.pick.glob rfl ⟨_, rfl, W.pick.keep, Evs_cons (Ev_cell rfl rfl rfl (Evs_cons (Ev_int (Evs_nil ?_))))⟩)
  refine pick_spec (n := n + 5) C W.pick.at' (by decide) (by decide) c2 hn h2 hv fun r hs' hr0 hr1 hv' => ?_
  obtain ⟨many, rfl⟩ := Int.eq_ofNat_of_zero_le hr0
  have c3 := AS.get1 (x := .list hs') hcH c2
  refine Exs_cons (Ex_assign_tup ?_)
  refine Ev_callK C.kin (Ev_global C.top W.graph.glob rfl ⟨_, rfl, W.graph.keep, Evs_cons (Ev_cell rfl rfl rfl (Evs_cons (Ev_local rfl rfl (Evs_cons (Ev_int (Evs_nil ?_))))))⟩)
  refine graph_spec (n := n + 2) C W.c W.aig W.graph.at' W.pick (by omega) c3 hn (AS.set_same ..) hv' fun σ' x d nl il ol tl kn nodes ins es ks g n10 k1 k6 => ?_
  refine As_tup2 (.inl rfl) (.inr ⟨rfl, rfl⟩) ?_
  exact partA1 W g c3 hcH hn n10 k1 k6 rfl rfl rfl
end
-- Pr17
theorem fn_of {K : Frag} {h : Heap} {f : Addr} {st : Stmt} {oc : Value} {od an : Option Addr} {osl : Array (Option Value)} {nm qual : Str} {params : Arguments} {body : List Stmt} {scope : Scope} {doc pm cdv ct : Value} (X : K.In h)
    (ho : K.lookup f = some ⟨oc, od, .func (fnOf nm qual params body scope .none .none doc pm an cdv ct), osl⟩) (hcd : codeIn K cdv qual = true) (e1 : params = dArgs st) (e2 : body = dBody st) (e3 : scope = dScope st) : Fn h f st := by
  subst e1 e2 e3
  exact ⟨oc, od, osl, nm, qual, doc, pm, an, cdv, ct, X _ _ ho, codeRec_of X hcd⟩
theorem fnx_of {K : Frag} {h : Heap} {mg : Str → Option Value} {f : Addr} {name : Str} {st : Stmt} (X : K.In h) (G : h.Ns mainGlobals mg) (a : nsIn K mainGlobals name = some (some (.ref f))) (b : keepIn K (.ref f) = true) (c : Fn h f st) : FnX h K mg f name st := ⟨c, mg_of X G a, b⟩

theorem law_good {prog : Program} {w : World} {K : Frag} {fs : FA} {s₁ : Shared} {mg mb : Str → Option Value} {f a : Addr} {vs : List Value} {ns : List Int} {c : ClaimW} {cl : Str → Option Addr} {mean : ExcName → Option Value} {args : List WData} (W : LW s₁.heap mg mb K fs) (X : Fn s₁.heap f (stAt 20)) (ha : s₁.heap.IsList a vs.toArray) (hi : IntsAre vs ns) (hz : vs.length ≤ sizeLine)
    (hg : s₁.gens = #[]) (hn : ∀ cls, c.raises args cls = false) (hp : c.post args (.bool true) args = true) : codeAny (model prog w) callerA (.call (.ref f) ⟨[.ref a], []⟩) (GoodW c cl mean args s₁) s₁ := by
  have rl : Rel prog w s₁.heap (fun _ => none) s₁.heap := ⟨fun _ _ e => e, fun _ _ e => (nomatch e), fun _ _ e => (nomatch e)⟩
  have ok : Ok 7 callerA := ⟨rfl, by decide, by decide⟩
  refine codeAny_mono (law_spec (n := 0) (σ := fun _ => none) (prog := prog) (w := w) W X ha hi hz callerA s₁ (.ref f) [.ref a] ok rl (.raw _) (.cons (.raw _) .nil)) fun r s' q => ?_
  rcases r with e | (v | _ | _ | _)
  · exact q.elim
  all_goals first | exact q.elim | skip
  obtain ⟨v', σ', p, r, rfl⟩ := q
  cases r
  obtain ⟨h', tk, e⟩ := p.same
  refine ⟨.inl ⟨_, .bool true, [], rfl, hn, .bool true, hp, fun _ => ⟨.nil, fun _ h => (nomatch h)⟩⟩, fun b o e => p.keep b o (not_dom.mpr rfl) e, by rw [e], by rw [e]; exact hg⟩

theorem cx_mk {K : Frag} {h : Heap} {mg mb : Str → Option Value} (fs : FA) (X : K.In h) (T : Top0 h mg mb) (h1 : nsIn K mainGlobals "len" = some none) (h2 : nsIn K mainGlobals "range" = some none) (h3 : nsIn K mainGlobals "abs" = some none) (h4 : nsIn K mainGlobals "min" = some none)
    (h5 : nsIn K mainGlobals "sum" = some none) (h6 : nsIn K mainGlobals "list" = some none) (h7 : nsIn K mainGlobals "tuple" = some none) (h8 : nsIn K mainGlobals "int" = some none) : Cx h mg mb K fs :=
  ⟨T, X, mg_none_of X T.g h1, mg_none_of X T.g h2, mg_none_of X T.g h3, mg_none_of X T.g h4, mg_none_of X T.g h5, mg_none_of X T.g h6, mg_none_of X T.g h7, mg_none_of X T.g h8⟩
theorem cls_mk {K : Frag} {C : Addr} (h1 : findIn K (.ref C) "__getattribute__" = some (some (.builtin "object.__getattribute__"))) (h2 : findIn K (.ref C) "__getattr__" = some none) (h3 : hasDictIn K C = true) (h4 : findIn K (.ref C) "nodes" = some none) (h5 : findIn K (.ref C) "inputs" = some none)
    (h6 : findIn K (.ref C) "outputs" = some none) (h7 : findIn K (.ref C) "table" = some none) : Cls K C :=
  ⟨fun _ => by unfold plainGet; rw [h1, h2]; rfl, h3, h4, h5, h6, h7⟩
theorem sets_mk {K : Frag} {C : Addr} (hs : findIn K (.ref C) "__setattr__" = some (some (.builtin "object.__setattr__"))) (hp : plainOver K C = true) (hh : hasDictIn K C = true) (h1 : takerIn K C "nodes" = some none) (h2 : takerIn K C "inputs" = some none) (h3 : takerIn K C "outputs" = some none) (h4 : takerIn K C "table" = some none) :
    ∀ x : Str, x = "nodes" ∨ x = "inputs" ∨ x = "outputs" ∨ x = "table" → Sets K C x := by
  rintro x (rfl | rfl | rfl | rfl)
  · exact ⟨hs, hp, h1, hh⟩
  · exact ⟨hs, hp, h2, hh⟩
  · exact ⟨hs, hp, h3, hh⟩
  · exact ⟨hs, hp, h4, hh⟩
theorem clsM_mk {K : Frag} {h : Heap} {C f : Addr} {name : Str} {st : Stmt} (X : K.In h) (h1 : findIn K (.ref C) name = some (some (.ref f))) (h2 : isFn K (.ref f) = true) (h3 : keepIn K (.ref f) = true) (h4 : Fn h f st) : ∃ f, ClsM h K C f name st := ⟨f, h1, h2, h3, h4⟩
theorem init_mk {K : Frag} {h : Heap} {C f : Addr} {st : Stmt} (X : K.In h) (h1 : findIn K (.ref C) "__init__" = some (some (.ref f))) (h2 : typeIn K (.ref f) = some (.type "function")) (h4 : Fn h f st) : ∃ f, findIn K (.ref C) "__init__" = some (some (.ref f)) ∧ typeIn K (.ref f) = some (.type "function") ∧ Fn h f st := ⟨f, h1, h2, h4⟩
theorem clsx_mk {K : Frag} {h : Heap} (fs : FA) (X : K.In h) (a : Cls K fs.Aig) (b : keepIn K (.ref fs.Aig) = true) (c : ∀ x : Str, x = "nodes" ∨ x = "inputs" ∨ x = "outputs" ∨ x = "table" → Sets K fs.Aig x) (d : makesIn K fs.Aig = true)
    (e : ∃ f, findIn K (.ref fs.Aig) "__init__" = some (some (.ref f)) ∧ typeIn K (.ref f) = some (.type "function") ∧ Fn h f (meth 0)) (m1 : ∃ f, ClsM h K fs.Aig f "add_input" (meth 1)) (m3 : ∃ f, ClsM h K fs.Aig f "is_and" (meth 3)) (m4 : ∃ f, ClsM h K fs.Aig f "land" (meth 4)) (m5 : ∃ f, ClsM h K fs.Aig f "lor" (meth 5)) (m7 : ∃ f, ClsM h K fs.Aig f "lmux" (meth 7)) : ClsX h K fs :=
  ⟨a, trivial, b, c, d, e, m1, m3, m4, m5, m7⟩
noncomputable def vw : Program := { PySem.Challenge.pw_nn0308_01 with main := { PySem.Challenge.pw_nn0308_01.main with body := [stAt 20] } }
noncomputable def ls : List Str := [Str.ofString "_wall", Str.ofString "GateloomError", Str.ofString "FormatError", Str.ofString "variable_of", Str.ofString "cone_nodes", Str.ofString "aig_cnf", Str.ofString "differ_clauses", Str.ofString "satisfies", Str.ofString "dimacs_text", Str.ofString "whole_word", Str.ofString "read_dimacs", Str.ofString "Aig", Str.ofString "literal_word", Str.ofString "_law_pick", Str.ofString "_law_of", Str.ofString "_law_graph"]
theorem said : PySem.Challenge.rw_nn0308_01.wellSaid = true := by
  unfold OpenLaw.wellSaid
  repeat' (with_reducible refine look_both ?_ ?_)
  all_goals first | (unfold OpenRow.wellSaid; repeat' (with_reducible refine look_both ?_ ?_)) | skip
  all_goals (have hh : True := trivial; decide +kernel)
end Mine

open PySem PySem.W PyProof.Rows
local macro_rules | `(tactic| o_head $H) => `(tactic| (
  refine holds_open (q := Mine.vw) (loose := Mine.ls) (Xt := fun s => xlAt Mine.vw [] s && recOk (RowW.records PySem.Challenge.rw_nn0308_01.row.toRowW) s) (XP := XL Mine.vw []) (Yf := Hook.obs $H) (Ya := Hook.val $H) (YP := Hook.says $H) (N := 3132) ?hl (Hook.of $H) (Hook.keeps $H) (fun s e => xl_of s (Bool.and_eq_true_iff.mp e).1) XL.keeps (by rfl) (by rfl) (by rfl) (fun s e => recFacts_of (Bool.and_eq_true_iff.mp e).2) (by first | rfl | fail "open_line: no head takes a call that writes beside a table") (by first | assumption | decide +kernel) (by decide +kernel) ⟨rfl, rfl, rfl, rfl, rfl, by decide +kernel⟩ ?hw ?hc
  case hl => (intro w; unfold openEnds fencedOpening topFrom; try rw [PySem.W.Fast.te14082659384304107361, PySem.W.Fast.te10274390034422433532, PySem.W.Fast.te4187177175401517315, PySem.W.Fast.te14289696077712309145, PySem.W.Fast.te1435165496053646825]; kernel_rfl)))
local macro_rules | `(tactic| walk_at "m F") => `(tactic| (refine' Mine.fn_of (by assumption) ?a ?b ?c ?d ?e; (case a => k_is); (case b => k_is); (case c => rfl); (case d => rfl); (case e => rfl)))
local macro_rules | `(tactic| walk_at "m X") => `(tactic| (refine Mine.fnx_of (by assumption) (Top.g (by assumption)) ?a ?b ?c; (case a => k_is); (case b => k_is); (case c => walk_at "m F")))
local macro_rules | `(tactic| walk_at "m M") => `(tactic| (refine' Mine.clsM_mk (by assumption) ?a ?b ?c ?d; (case a => k_is); (case b => k_is); (case c => k_is); (case d => walk_at "m F")))
local macro_rules | `(tactic| walk_at "m I") => `(tactic| (refine' Mine.init_mk (by assumption) ?a ?b ?d; (case a => k_is); (case b => k_is); (case d => walk_at "m F")))
set_option maxRecDepth 100000 in
set_option maxHeartbeats 16000000 in
theorem PySem.Challenge.cw_nn0308_01_holds : PySem.Challenge.rw_nn0308_01.Holds := by
  w_on; (refine holds_law Mine.said fun said => ?_); k_head; (case hw => w_witness2)
  w_strict (
  k_fill
  intro w s₀ s₁ mg mb G Y fa o pm cd doc dV kV ho hd hcd hD hmg hg args vals as hpre hlay hrd hwl hlo
  have KX := kIn_of Y
  refine Ground.open G ?_
  intro T B D TE TW
  have T0 : Mine.Top0 s₁.heap mg mb := ⟨T.g, T.b, T.builtins, T.nolimit, T.nodigits⟩
  have C := Mine.cx_mk ⟨61, 66, 73, 80, 87, 92, 99, 106, 201, 219, 226, 231⟩ KX T0 (by k_is) (by k_is) (by k_is) (by k_is) (by k_is) (by k_is) (by k_is) (by k_is)
  have c := Mine.clsx_mk ⟨61, 66, 73, 80, 87, 92, 99, 106, 201, 219, 226, 231⟩ KX (Mine.cls_mk (by k_is) (by k_is) (by k_is) (by k_is) (by k_is) (by k_is) (by k_is)) (by k_is) (Mine.sets_mk (by k_is) (by k_is) (by k_is) (by k_is) (by k_is) (by k_is) (by k_is)) (by k_is)
    (by walk_at "m I") (by walk_at "m M") (by walk_at "m M") (by walk_at "m M") (by walk_at "m M") (by walk_at "m M")
  have W := Mine.LW.mk C c (mg_of KX T.g (by k_is)) (by walk_at "m X") (by walk_at "m X") (by walk_at "m X") (by walk_at "m X") (by walk_at "m X") (by walk_at "m X") (by walk_at "m X") (by walk_at "m X") (by walk_at "m X") (by walk_at "m X") (by walk_at "m X")
  have ef : (some (Value.ref fa) : Option Value) = some (.ref 236) := hmg.symm.trans (mg_of (n := "law") KX T.g (by k_is))
  cases ef
  have X : Mine.Fn s₁.heap 236 (Mine.stAt 20) := by walk_at "m F"
  have TA := at_of_top T
  try (refine guard_noD D (by decide +kernel) ?_; clear D)
  clear hmg
  wrow_args hpre hlay hrd hwl hlo
  all_goals (
    refine enter_call ?_
    w_top on
    try refine codeAny_mono ?_ (fun _ _ g => GoodW.toG g)
    rename IntsAre _ _ => hI
    rename Heap.IsList _ _ _ => hL
    have hlen := hI.length
    refine Mine.law_good W X hL hI ?hz hg ?hn ?hp
    case hz => rw [sizeLine_eq]; omega
    case hn => exact fun _ => rfl
    case hp => exact postW_of rfl (w_eq_bool (w_res rfl) w_lit) rfl))
